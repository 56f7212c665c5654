import PyProof.Rows.All
import Wide.All
import OpenK.AllK
import Wide.FinOn
import HandS.ForMost
import HandS.ForExc
import HandS.Deep
import HandS.Conv
import HandS.IsInst
import HandS.TupAny
import HandS.TupLe
import HandS.TupMul
import HandS.Zip
import HandS.SetFor
import HandS.Strs
import HandS.TupSets
import HandS.SortInts
import HandS.SortRule
import HandS.Style
import HandS.Wide
import KE.GoesMore
import PySem.Challenge.RW_heldfires_k31_whole_ways_and_times
set_option Elab.async false
set_option linter.all false
set_option maxRecDepth 100000
set_option maxHeartbeats 4000000

/-! ### A: the small language, its evaluator over plain data -/
namespace HF
open PySem

inductive O (α : Type) where
  | ok (a : α) : O α
  | ex (c : Nat) : O α
  | no : O α

namespace O
def bind {α β : Type} (x : O α) (f : α → O β) : O β := match x with
  | ok a => f a
  | ex c => ex c
  | no => no
def noex {α : Type} : O α → O α
  | ok a => ok a
  | ex _ => no
  | no => no
@[simp] theorem ok_bind {α β : Type} (a : α) (f : α → O β) : (ok a).bind f = f a := rfl
@[simp] theorem ex_bind {α β : Type} (c : Nat) (f : α → O β) : (ex c : O α).bind f = ex c := rfl
@[simp] theorem no_bind {α β : Type} (f : α → O β) : (no : O α).bind f = no := rfl
@[simp] theorem noex_ok {α : Type} (a : α) : (ok a).noex = ok a := rfl
end O

inductive Res where
  | v (d : PyData)
  | l (xs : List PyData)
  | k (kvs : List (Int × PyData))

abbrev Env := List (Option Res)

def Res.dat : Res → O PyData
  | .v d => .ok d
  | .l xs => .ok (.list xs)
  | .k _ => .no
@[simp] theorem Res.dat_v (d : PyData) : (Res.v d).dat = .ok d := rfl
@[simp] theorem Res.dat_l (xs : List PyData) : (Res.l xs).dat = .ok (.list xs) := rfl
def dat (x : O Res) : O PyData := x.bind Res.dat
@[simp] theorem dat_v (d : PyData) : dat (.ok (.v d)) = .ok d := rfl
@[simp] theorem dat_l (xs : List PyData) : dat (.ok (.l xs)) = .ok (.list xs) := rfl
@[simp] theorem dat_ex (c : Nat) : dat (.ex c) = .ex c := rfl
@[simp] theorem dat_no : dat .no = .no := rfl

def nth : Env → Nat → Option Res
  | [], _ => none
  | a :: _, 0 => a
  | _ :: r, n + 1 => nth r n
def put : Env → Nat → Res → Env
  | [], _, _ => []
  | _ :: r, 0, x => some x :: r
  | a :: r, n + 1, x => a :: put r n x
theorem nth_iff : ∀ (r : Env) (i : Nat) (x : Res), nth r i = some x ↔ r[i]? = some (some x)
  | [], i, x => by simp [nth]
  | a :: r, 0, x => by simp [nth]
  | a :: r, n + 1, x => by simp only [nth, List.getElem?_cons_succ]; exact nth_iff r n x
theorem put_eq : ∀ (r : Env) (i : Nat) (x : Res), put r i x = r.set i (some x)
  | [], i, x => rfl
  | a :: r, 0, x => rfl
  | a :: r, n + 1, x => by simp only [put, List.set_cons_succ]; rw [put_eq r n x]

def cap : Nat := 1000000

def toI : PyData → O Int
  | .int i => .ok i
  | _ => .no
def toB : PyData → O Bool
  | .bool b => .ok b
  | _ => .no
def items : PyData → O (List PyData)
  | .list xs => .ok xs
  | .tuple xs => .ok xs
  | _ => .no
def rngL (a : Int) : Nat → List PyData
  | 0 => []
  | n + 1 => .int a :: rngL (a + 1) n
def intsD : List PyData → Option (List Int)
  | [] => some []
  | .int i :: r => match intsD r with
    | some ns => some (i :: ns)
    | none => none
  | _ :: _ => none
def boolsD : List PyData → Option (List Bool)
  | [] => some []
  | .bool b :: r => match boolsD r with
    | some bs => some (b :: bs)
    | none => none
  | _ :: _ => none
/-- a list of pairs of whole numbers -/
def prsD : List PyData → Option (List (Int × Int))
  | [] => some []
  | .tuple [.int i, .int j] :: r => match prsD r with
    | some ps => some ((i, j) :: ps)
    | none => none
  | _ :: _ => none
def ofI (ns : List Int) : List PyData := ns.map .int
def ofP (ps : List (Int × Int)) : List PyData := ps.map fun p => .tuple [.int p.1, .int p.2]

def lexP (p q : Int × Int) : Bool := if p.1 = q.1 then decide (p.2 < q.2) else decide (p.1 < q.1)

/-- insertion into a sorted list -/
def ins {α : Type} (lt : α → α → Bool) (x : α) : List α → List α
  | [] => [x]
  | y :: r => if lt y x then y :: ins lt x r else x :: y :: r
def isort {α : Type} (lt : α → α → Bool) : List α → List α
  | [] => []
  | x :: r => ins lt x (isort lt r)
/-- insertion, equal ones dropped -/
def uins {α : Type} (lt : α → α → Bool) (x : α) : List α → List α
  | [] => [x]
  | y :: r => if lt y x then y :: uins lt x r else if lt x y then x :: y :: r else y :: r
def usort {α : Type} (lt : α → α → Bool) : List α → List α
  | [] => []
  | x :: r => uins lt x (usort lt r)
def ltI (a b : Int) : Bool := decide (a < b)

inductive Bop where
  | add | sub | mul | fdiv | mod | pow
inductive Cop where
  | eq | ne | lt | le | gt | ge | is | isn | inn | nin
inductive B1 where
  | len | sorted | tuple | list | min | max | abs | int | sum | all | any | sset | lset
inductive Ty where
  | int | bool | tuple | str | list

def small64 (i : Int) : Bool := decide (-(2 ^ 64) < i) && decide (i < 2 ^ 64)

def binD : Bop → PyData → PyData → O Res
  | .add, .int i, .int j => .ok (.v (.int (i + j)))
  | .add, .list xs, .list ys => if xs.length + ys.length ≤ cap then .ok (.l (xs ++ ys)) else .no
  | .add, .tuple xs, .tuple ys => if xs.length + ys.length ≤ cap then .ok (.v (.tuple (xs ++ ys))) else .no
  | .add, .str x, .str y => if x.length + y.length ≤ cap then .ok (.v (.str (x ++ y))) else .no
  | .sub, .int i, .int j => .ok (.v (.int (i - j)))
  | .mul, .int i, .int j => if small64 i || small64 j then .ok (.v (.int (i * j))) else .no
  | .mul, .list xs, .int k => if 0 ≤ k ∧ k ≤ 1000 ∧ xs.length ≤ 1000 then .ok (.l (List.replicate k.toNat xs).flatten) else .no
  | .fdiv, .int i, .int j => if 0 < j ∧ j < 18446744073709551616 then .ok (.v (.int (i / j))) else .no
  | .mod, .int i, .int j => if 0 < j then .ok (.v (.int (i % j))) else .no
  | .pow, .int i, .int j => if 0 ≤ j ∧ j ≤ 1000 ∧ small64 i = true then .ok (.v (.int (i ^ j.toNat))) else .no
  | _, _, _ => .no

def anyEq (d : PyData) : List PyData → Bool
  | [] => false
  | x :: r => PyData.eqv x d || anyEq d r

def inD (d : PyData) : PyData → O Bool
  | .list xs => if SeqAt.shaped d && SeqAt.shaped (.list xs) then .ok (anyEq d xs) else .no
  | .tuple xs => if SeqAt.shaped d && SeqAt.shaped (.tuple xs) then .ok (anyEq d xs) else .no
  | _ => .no

/-- the script stands among data as a dict of its ints: a list that is only read -/
def scr (ns : List Int) : PyData := .dict (ns.map fun n => (.int n, .none))
def keysD : List (PyData × PyData) → List PyData
  | [] => []
  | (a, _) :: r => a :: keysD r
def unscr : PyData → PyData
  | .dict kvs => .list (keysD kvs)
  | d => d
def isNoneD : PyData → Bool
  | .none => true
  | _ => false
def cmpD : Cop → PyData → PyData → O Bool
  | .eq, a, b => if SeqAt.shaped (unscr a) && SeqAt.shaped b then .ok (PyData.eqv (unscr a) b) else .no
  | .ne, a, b => if SeqAt.shaped (unscr a) && SeqAt.shaped b then .ok (!PyData.eqv (unscr a) b) else .no
  | .lt, .int i, .int j => .ok (decide (i < j))
  | .le, .int i, .int j => .ok (decide (i ≤ j))
  | .gt, .int i, .int j => .ok (decide (j < i))
  | .ge, .int i, .int j => .ok (decide (j ≤ i))
  | .is, a, .none => .ok (isNoneD a)
  | .isn, a, .none => .ok (!isNoneD a)
  | .is, .bool a, .bool b => .ok (a == b)
  | .isn, .bool a, .bool b => .ok (!(a == b))
  | .inn, a, b => inD a b
  | .nin, a, b => (inD a b).bind fun r => .ok (!r)
  | _, _, _ => .no

def minI : Int → List Int → Int
  | m, [] => m
  | m, x :: r => minI (if x < m then x else m) r
def maxI : Int → List Int → Int
  | m, [] => m
  | m, x :: r => maxI (if m < x then x else m) r
def sumI : List Int → Int
  | [] => 0
  | x :: r => x + sumI r

def sortD (xs : List PyData) : O (List PyData) := match intsD xs with
  | some ns => .ok (ofI (isort ltI ns))
  | none => match prsD xs with
    | some ps => .ok (ofP (isort lexP ps))
    | none => .no
def ssetD (xs : List PyData) : O (List PyData) := if xs.length < 60 then (match intsD xs with
  | some ns => .ok (ofI (usort ltI ns))
  | none => match prsD xs with
    | some ps => if ps.all (fun p => decide (0 ≤ p.1) && decide (p.1 < 64) && decide (0 ≤ p.2) && decide (p.2 < 64)) then .ok (ofP (usort lexP ps)) else .no
    | none => .no) else .no

def lsetD (xs : List PyData) : O Nat := if xs.length < 60 then (match intsD xs with
  | some ns => .ok (usort ltI ns).length
  | none => .no) else .no

def b1D : B1 → PyData → O Res
  | .len, .list xs => .ok (.v (.int xs.length))
  | .len, .tuple xs => .ok (.v (.int xs.length))
  | .len, .dict kvs => .ok (.v (.int kvs.length))
  | .len, .str s => if s.length ≤ cap then .ok (.v (.int s.length)) else .no
  | .tuple, .list xs => .ok (.v (.tuple xs))
  | .tuple, .tuple xs => .ok (.v (.tuple xs))
  | .list, .list xs => .ok (.l xs)
  | .list, .tuple xs => .ok (.l xs)
  | .abs, .int i => .ok (.v (.int (if i < 0 then -i else i)))
  | .int, .int i => .ok (.v (.int i))
  | .int, .bool b => .ok (.v (.int (if b then 1 else 0)))
  | .sorted, d => (items d).bind fun xs => (sortD xs).bind fun ys => .ok (.l ys)
  | .sset, d => (items d).bind fun xs => (ssetD xs).bind fun ys => .ok (.l ys)
  | .lset, d => (items d).bind fun xs => (lsetD xs).bind fun n => .ok (.v (.int n))
  | .min, .list xs => match intsD xs with
    | some (n :: ns) => .ok (.v (.int (minI n ns)))
    | _ => .no
  | .max, .list xs => match intsD xs with
    | some (n :: ns) => .ok (.v (.int (maxI n ns)))
    | _ => .no
  | .sum, .list xs => match intsD xs with
    | some ns => .ok (.v (.int (sumI ns)))
    | none => .no
  | .all, .list xs => match boolsD xs with
    | some bs => .ok (.v (.bool (bs.all id)))
    | none => .no
  | .any, .list xs => match boolsD xs with
    | some bs => .ok (.v (.bool (bs.any id)))
    | none => .no
  | _, _ => .no

def isiD : Ty → PyData → O Bool
  | _, .dict _ => .no
  | .int, .int _ => .ok true
  | .int, .bool _ => .ok true
  | .bool, .bool _ => .ok true
  | .tuple, .tuple _ => .ok true
  | .str, .str _ => .ok true
  | .list, .list _ => .ok true
  | _, _ => .ok false

/-- the place that an index means -/
def ixOf (n : Nat) (i : Int) : Option Nat := if 0 ≤ i then (if i < n then some i.toNat else none) else if -(n : Int) ≤ i then some (i + n).toNat else none
def nthD : List PyData → Nat → Option PyData
  | [], _ => none
  | a :: _, 0 => some a
  | _ :: r, n + 1 => nthD r n
def atD (xs : List PyData) (i : Int) : O PyData := match ixOf xs.length i with
  | some j => (match nthD xs j with
    | some d => .ok d
    | none => .no)
  | none => .no
def ixD : PyData → PyData → O PyData
  | .list xs, .int i => atD xs i
  | .tuple xs, .int i => atD xs i
  | .dict kvs, .int i => atD (keysD kvs) i
  | .str s, .int i => if s.length ≤ cap then (match ixOf s.cps.toList.length i with
    | some j => (match s.cps.toList[j]? with
      | some c => .ok (.str ⟨#[c]⟩)
      | none => .no)
    | none => .no) else .no
  | _, _ => .no
def bndD (n d : Nat) : PyData → O Nat
  | .none => .ok d
  | .int i => .ok (if i < 0 then (i + n).toNat else min i.toNat n)
  | _ => .no
def cutD (xs : List PyData) (lo hi : Nat) : List PyData := (xs.drop lo).take (hi - lo)
def slcD (a lo hi : PyData) : O Res := match a with
  | .list xs => (bndD xs.length 0 lo).bind fun i => (bndD xs.length xs.length hi).bind fun j => .ok (.l (cutD xs i j))
  | .tuple xs => (bndD xs.length 0 lo).bind fun i => (bndD xs.length xs.length hi).bind fun j => .ok (.v (.tuple (cutD xs i j)))
  | _ => .no

def lookK : List (Int × PyData) → Int → Option PyData
  | [], _ => none
  | (j, d) :: r, i => if j = i then some d else lookK r i
def putK (kvs : List (Int × PyData)) (i : Int) (d : PyData) : List (Int × PyData) :=
  if (kvs.any fun kv => decide (kv.1 = i)) = true then kvs.map (fun kv => if kv.1 = i then (kv.1, d) else kv) else kvs ++ [(i, d)]

mutual
inductive E where
  | var (i : Nat)
  | cst (d : PyData)
  | glb (k : Nat)
  | bin (op : Bop) (a b : E)
  | neg (a : E)
  | cmp (op : Cop) (a b : E)
  | chn (o1 o2 : Cop) (a b c : E)
  | bo (isAnd : Bool) (es : Es)
  | nt (a : E)
  | ite (c a b : E)
  | tup (es : Es)
  | lst (es : Es)
  | ix (a b : E)
  | slc (a lo hi : E)
  | call (f : Nat) (es : Es)
  | b1 (b : B1) (a : E)
  | b2 (isMax : Bool) (a b : E)
  | isi (t : Ty) (a : E)
  | comp (elt : E) (tgt : List Nat) (src : E) (cond : E)
  | rng1 (a : E)
  | rng2 (a b : E)
  | enm (a : E)
  | kin (neg : Bool) (i : Nat) (e : E)
  | kget (i : Nat) (e : E)
  | kix (i : Nat) (e : E)
inductive Es where
  | nil
  | cons (e : E) (es : Es)
end

inductive Flow where
  | nx (r : Env)
  | rt (r : Res)

mutual
inductive S where
  | set (i : Nat) (e : E)
  | unp (is : List Nat) (e : E)
  | sef (i : Nat) (e : E)
  | par (is fz : List Nat) (es : Es)
  | app (i : Nat) (e : E)
  | ext (i : Nat) (e : E)
  | six (i : Nat) (a b : E)
  | kst (i : Nat) (a b : E)
  | kds (i : Nat) (a b : E)
  | exp (e : E)
  | ret (e : E)
  | retv (i : Nat)
  | iff (c : E) (a b : Ss)
  | fr (tgt : List Nat) (src : E) (body : Ss)
  | frp (tgt : List Nat) (f : Nat) (es : Es) (i : Nat) (body : Ss)
  | whl (c : E) (body : Ss)
  | rse (c : Nat)
  | frz (is : List Nat) (s : S)
  | apop (i j : Nat) (e : E)
  | pop (i j : Nat)
inductive Ss where
  | nil
  | cons (s : S) (ss : Ss)
end

/-- what a slot holds, looked at without being handed on -/
def peek (r : Env) (i : Nat) : O PyData := match nth r i with
  | some x => x.dat
  | none => .no
def isVar : E → Option Nat
  | .var i => some i
  | _ => none
def pk (e : E) (x : O Res) (r : Env) : O PyData := match e with
  | .var i => peek r i
  | _ => dat x

/-- a slice's part: left out, or a whole number -/
def part (e : E) (x : O Res) : O PyData := match e with
  | .cst .none => .ok .none
  | _ => (dat x).bind fun d => (toI d).bind fun i => .ok (.int i)

def bindL : List Nat → List PyData → Env → O Env
  | [], [], r => .ok r
  | i :: is, d :: ds, r => bindL is ds (put r i (.v d))
  | _, _, _ => .no
def bindR : List Nat → List Res → Env → O Env
  | [], [], r => .ok r
  | i :: is, d :: ds, r => bindR is ds (put r i d)
  | _, _, _ => .no
/-- a loop's target: a name, or names that a tuple is laid out to -/
def bindT (tgt : List Nat) (d : PyData) (r : Env) : O Env := match tgt with
  | [i] => .ok (put r i (.v d))
  | is => match d with
    | .tuple ds => bindL is ds r
    | _ => .no

def compL (tgt : List Nat) (fc : Env → O Bool) (fe : Env → O PyData) (r : Env) : List PyData → O (List PyData)
  | [] => .ok []
  | x :: xs => (bindT tgt x r).bind fun r' => (fc r').bind fun c => match c with
    | true => (fe r').bind fun d => (compL tgt fc fe r xs).bind fun ds => .ok (d :: ds)
    | false => compL tgt fc fe r xs

/-- slots forgotten -/
def unput : Env → Nat → Env
  | [], _ => []
  | _ :: r, 0 => none :: r
  | a :: r, n + 1 => a :: unput r n
def clr : List Nat → Env → Env
  | [], r => r
  | i :: is, r => unput (clr is r) i
theorem unput_eq : ∀ (r : Env) (i : Nat), unput r i = r.set i none
  | [], i => rfl
  | a :: r, 0 => rfl
  | a :: r, n + 1 => by simp only [unput, List.set_cons_succ]; rw [unput_eq r n]

def enmL (k : Int) : List PyData → List PyData
  | [] => []
  | x :: xs => .tuple [.int k, x] :: enmL (k + 1) xs

def lstItems : PyData → O (List PyData)
  | .list xs => .ok xs
  | _ => .no
def tupItems : PyData → O (List PyData)
  | .tuple xs => .ok (enmL 0 xs)
  | _ => .no
def rngD (i j : Int) : O (List PyData) := if -(2 ^ 60) < i ∧ i < 2 ^ 60 ∧ -(2 ^ 60) < j ∧ j < 2 ^ 60 ∧ (j - i).toNat ≤ cap then .ok (rngL i (j - i).toNat) else .no

section
variable (cal : Nat → List Res → O Res) (G : List PyData)
mutual
def ev : E → Env → O Res
  | .var i, r => match nth r i with
    | some (.v d) => .ok (.v d)
    | _ => .no
  | .cst d, _ => .ok (.v d)
  | .glb k, _ => match nthD G k with
    | some d => .ok (.v d)
    | none => .no
  | .bin op a b, r => (pk a (ev a r) r).bind fun x => (pk b (ev b r) r).bind fun y => binD op x y
  | .neg a, r => (dat (ev a r)).bind fun x => (toI x).bind fun i => .ok (.v (.int (-i)))
  | .cmp op a b, r => (pk a (ev a r) r).bind fun x => (pk b (ev b r) r).bind fun y => (cmpD op x y).bind fun c => .ok (.v (.bool c))
  | .chn o1 o2 a b c, r => (dat (ev a r)).bind fun x => (dat (ev b r)).bind fun y => (cmpD o1 x y).bind fun t => match t with
    | true => (dat (ev c r)).bind fun z => (cmpD o2 y z).bind fun t => .ok (.v (.bool t))
    | false => .ok (.v (.bool false))
  | .bo isAnd es, r => evB isAnd es r
  | .nt a, r => (dat (ev a r)).bind fun x => (toB x).bind fun b => .ok (.v (.bool (!b)))
  | .ite c a b, r => (dat (ev c r)).bind fun x => (toB x).bind fun t => match t with
    | true => ev a r
    | false => ev b r
  | .tup es, r => (evs es r).bind fun ds => .ok (.v (.tuple ds))
  | .lst es, r => (evs es r).bind fun ds => .ok (.l ds)
  | .ix a b, r => (pk a (ev a r) r).bind fun x => (dat (ev b r)).bind fun y => (ixD x y).bind fun d => .ok (.v d)
  | .slc a lo hi, r => (pk a (ev a r) r).bind fun x => (part lo (ev lo r)).bind fun y => (part hi (ev hi r)).bind fun z => slcD x y z
  | .call f es, r => (evs es r).bind fun ds => cal f (ds.map .v)
  | .b1 b a, r => match a with
    | .rng1 c => (dat (ev c r)).bind fun x => (toI x).bind fun j => (rngD 0 j).bind fun ds => (match b with
      | .list => .ok (.l ds)
      | .tuple => .ok (.v (.tuple ds))
      | _ => .no)
    | .rng2 c d => (dat (ev c r)).bind fun x => (dat (ev d r)).bind fun y => (toI x).bind fun i => (toI y).bind fun j => (rngD i j).bind fun ds => (match b with
      | .list => .ok (.l ds)
      | .tuple => .ok (.v (.tuple ds))
      | _ => .no)
    | a => (pk a (ev a r) r).bind fun x => b1D b x
  | .b2 isMax a b, r => (dat (ev a r)).bind fun x => (dat (ev b r)).bind fun y => (toI x).bind fun i => (toI y).bind fun j =>
      .ok (.v (.int (if isMax then (if j > i then j else i) else (if j < i then j else i))))
  | .isi t a, r => (pk a (ev a r) r).bind fun x => (isiD t x).bind fun c => .ok (.v (.bool c))
  | .comp elt tgt src cond, r => (match src with
    | .rng1 a => (dat (ev a r)).bind fun x => (toI x).bind fun j => rngD 0 j
    | .rng2 a b => (dat (ev a r)).bind fun x => (dat (ev b r)).bind fun y => (toI x).bind fun i => (toI y).bind fun j => rngD i j
    | .enm a => (pk a (ev a r) r).bind tupItems
    | e => (pk e (ev e r) r).bind items).bind fun xs =>
      (O.noex (compL tgt (fun r' => (dat (ev cond r')).bind toB) (fun r' => dat (ev elt r')) (clr tgt r) xs)).bind fun ds => .ok (.l ds)
  | .rng1 _, _ => .no
  | .rng2 _ _, _ => .no
  | .enm _, _ => .no
  | .kin neg i e, r => (dat (ev e r)).bind fun x => (toI x).bind fun j => match nth r i with
    | some (.k kvs) => .ok (.v (.bool (if neg then !(lookK kvs j).isSome else (lookK kvs j).isSome)))
    | _ => .no
  | .kget i e, r => match nth r i with
    | some (.k kvs) => (dat (ev e r)).bind fun x => (toI x).bind fun j => .ok (.v ((lookK kvs j).getD .none))
    | _ => .no
  | .kix i e, r => match nth r i with
    | some (.k kvs) => (dat (ev e r)).bind fun x => (toI x).bind fun j => (match lookK kvs j with
      | some d => .ok (.v d)
      | none => .no)
    | _ => .no
def evs : Es → Env → O (List PyData)
  | .nil, _ => .ok []
  | .cons e es, r => (dat (ev e r)).bind fun d => (evs es r).bind fun ds => .ok (d :: ds)
def evr : Es → Env → O (List Res)
  | .nil, _ => .ok []
  | .cons e es, r => (ev e r).bind fun d => (evr es r).bind fun ds => .ok (d :: ds)
def evB (isAnd : Bool) : Es → Env → O Res
  | .nil, _ => .no
  | .cons e es, r => (dat (ev e r)).bind fun x => (toB x).bind fun b => match es with
    | .nil => .ok (.v (.bool b))
    | es => if b = isAnd then evB isAnd es r else .ok (.v (.bool b))
end
/-- what a loop walks -/
def its : E → Env → O (List PyData)
  | .rng1 a, r => (dat (ev cal G a r)).bind fun x => (toI x).bind fun j => rngD 0 j
  | .rng2 a b, r => (dat (ev cal G a r)).bind fun x => (dat (ev cal G b r)).bind fun y => (toI x).bind fun i => (toI y).bind fun j => rngD i j
  | .enm a, r => (dat (ev cal G a r)).bind tupItems
  | e, r => (dat (ev cal G e r)).bind items
end

def forL (tgt : List Nat) (body : Env → O Flow) : List PyData → Env → O Flow
  | [], r => .ok (.nx r)
  | x :: xs, r => (bindT tgt x r).bind fun r1 => (body r1).bind fun f => match f with
    | .nx r2 => forL tgt body xs r2
    | .rt v => .ok (.rt v)
def whlN (c : Env → O Bool) (body : Env → O Flow) : Nat → Env → O Flow
  | 0, _ => .no
  | n + 1, r => (c r).bind fun b => match b with
    | true => (body r).bind fun f => (match f with
      | .nx r2 => whlN c body n r2
      | .rt v => .ok (.rt v))
    | false => .ok (.nx r)

def frzL : List Nat → Env → Env
  | [], r => r
  | i :: is, r => frzL is (match nth r i with
    | some (.l xs) => put r i (.v (.list xs))
    | _ => r)

def setNth : List PyData → Nat → PyData → List PyData
  | [], _, _ => []
  | _ :: r, 0, x => x :: r
  | a :: r, n + 1, x => a :: setNth r n x

section
variable (cal : Nat → List Res → O Res) (G : List PyData) (fuel : Nat)
mutual
def ex : S → Env → O Flow
  | .set i e, r => (ev cal G e r).bind fun x => .ok (.nx (put r i x))
  | .unp is e, r => (dat (ev cal G e r)).bind fun d => (match d with
    | .tuple ds => (bindL is ds r).bind fun r' => .ok (.nx r')
    | _ => .no)
  | .sef i e, r => (dat (ev cal G e r)).bind fun d => .ok (.nx (put r i (.v d)))
  | .par is fz es, r => (evr cal G es r).bind fun xs => (bindR is xs r).bind fun r' => .ok (.nx (frzL fz r'))
  | .app i e, r => match nth r i with
    | some (.l xs) => (dat (ev cal G e r)).bind fun d => if xs.length < cap then .ok (.nx (put r i (.l (xs ++ [d])))) else .no
    | _ => .no
  | .ext i e, r => match nth r i with
    | some (.l xs) => (dat (ev cal G e r)).bind fun d => (match d with
      | .list ys => if xs.length + ys.length ≤ cap then .ok (.nx (put r i (.l (xs ++ ys)))) else .no
      | _ => .no)
    | _ => .no
  | .six i a b, r => match nth r i with
    | some (.l xs) => (dat (ev cal G b r)).bind fun y => (dat (ev cal G a r)).bind fun x => (toI x).bind fun k => (match ixOf xs.length k with
      | some j => .ok (.nx (put r i (.l (setNth xs j y))))
      | none => .no)
    | _ => .no
  | .kst i a b, r => match nth r i with
    | some (.k kvs) => (dat (ev cal G b r)).bind fun y => (dat (ev cal G a r)).bind fun x => (toI x).bind fun k => if kvs.length < 1000 then .ok (.nx (put r i (.k (putK kvs k y)))) else .no
    | _ => .no
  | .kds i a b, r => (dat (ev cal G a r)).bind fun x => (dat (ev cal G b r)).bind fun y => (toI x).bind fun k => .ok (.nx (put r i (.k [(k, y)])))
  | .exp e, r => (ev cal G e r).bind fun _ => .ok (.nx r)
  | .ret e, r => (ev cal G e r).bind fun x => .ok (.rt x)
  | .retv i, r => (match nth r i with
    | some x => .ok (.rt x)
    | none => .no)
  | .iff c a b, r => (dat (ev cal G c r)).bind fun x => (toB x).bind fun t => match t with
    | true => exs a r
    | false => exs b r
  | .fr tgt src body, r => (its cal G src r).bind fun xs => forL tgt (fun r => exs body r) xs r
  | .frp tgt f es i body, r => match nth r i with
    | some (.l xs) => (match xs.getLast? with
      | some d => (evs cal G es r).bind fun ds => (O.noex (cal f ((ds ++ [d]).map .v))).bind fun y => (Res.dat y).bind fun y => (lstItems y).bind fun ys => forL tgt (fun r => exs body r) ys (put r i (.l xs.dropLast))
      | none => .no)
    | _ => .no
  | .whl c body, r => whlN (fun r => (dat (ev cal G c r)).bind toB) (fun r => exs body r) fuel r
  | .rse c, _ => .ex c
  | .frz is s, r => ex s (frzL is r)
  | .apop i j e, r => match nth r i, nth r j with
    | some (.l xs), some (.l ys) => (dat (ev cal G e r)).bind fun x => (toI x).bind fun k => (match ixOf ys.length k with
      | some m => (match nthD ys m with
        | some d => if xs.length < cap ∧ i ≠ j then .ok (.nx (put (put r j (.l (ys.eraseIdx m))) i (.l (xs ++ [d])))) else .no
        | none => .no)
      | none => .no)
    | _, _ => .no
  | .pop i j, r => match nth r j with
    | some (.l ys) => (match ys.getLast? with
      | some d => .ok (.nx (put (put r j (.l ys.dropLast)) i (.v d)))
      | none => .no)
    | _ => .no
def exs : Ss → Env → O Flow
  | .nil, r => .ok (.nx r)
  | .cons s ss, r => (ex s r).bind fun f => match f with
    | .nx r' => exs ss r'
    | .rt v => .ok (.rt v)
end
end

structure Fn where
  pars : Nat
  slots : Nat
  body : Ss

def nthF : List Fn → Nat → Option Fn
  | [], _ => none
  | a :: _, 0 => some a
  | _ :: r, n + 1 => nthF r n
def nones : Nat → Env
  | 0 => []
  | n + 1 => none :: nones n

/-- the defs of a text: n calls deep -/
def cal (T : List Fn) (G : List PyData) : Nat → Nat → List Res → O Res
  | 0, _, _ => .no
  | n + 1, f, as => match nthF T f with
    | none => .no
    | some F => if as.length = F.pars then
        (exs (cal T G n) G 1000 F.body (as.map some ++ nones (F.slots - F.pars))).bind fun fl => (match fl with
          | .nx _ => .ok (.v .none)
          | .rt x => .ok x)
      else .no
end HF

set_option Elab.async false
set_option linter.all false
set_option maxRecDepth 100000
set_option maxHeartbeats 4000000
/-! ### B: data in the heap; the readings -/
namespace HF
open PySem PySem.Spec PyProof.Rows L2

theorem sqT_mono {K : PySem.W.Frag} {H H' : Hp} {a : Addr} {xs : List V} (e : Same H H') (h : SqT K H a xs) : SqT K H' a xs := by
  rcases h with (h | ⟨o, h⟩) | h
  · exact .inl (.inl (e _ _ h))
  · exact .inl (.inr ⟨o, e _ _ h⟩)
  · exact .inr h
mutual
/-- the value v is the data d, in the heap F -/
inductive Dp (K : PySem.W.Frag) (F : Hp) : V → PyData → Prop
  | non : Dp K F .non .none
  | bl (b : Bool) : Dp K F (.bl b) (.bool b)
  | int (i : Int) : Dp K F (.int i) (.int i)
  | str (x : Str) : Dp K F (.str x) (.str x)
  | lst {a : Addr} {xs : List V} {ds : List PyData} : F a = some (.lst xs) → DpAll K F xs ds → Dp K F (.ref a) (.list ds)
  | tup {a : Addr} {xs : List V} {ds : List PyData} : F a = some (.tup xs) → DpAll K F xs ds → Dp K F (.ref a) (.tuple ds)
  | scr {a : Addr} {ns : List Int} {kvs : List (PyData × PyData)} : SqL K F a (ns.map V.int) → kvs = ns.map (fun n => (.int n, .none)) → Dp K F (.ref a) (.dict kvs)
inductive DpAll (K : PySem.W.Frag) (F : Hp) : List V → List PyData → Prop
  | nil : DpAll K F [] []
  | cons {v : V} {vs : List V} {d : PyData} {ds : List PyData} : Dp K F v d → DpAll K F vs ds → DpAll K F (v :: vs) (d :: ds)
end
mutual
theorem dp_mono {K : PySem.W.Frag} {F F' : Hp} (s : Same F F') : ∀ (d : PyData) (v : V), Dp K F v d → Dp K F' v d
  | .none, _, h => by cases h; exact .non
  | .bool b, _, h => by cases h; exact .bl b
  | .int i, _, h => by cases h; exact .int i
  | .str x, _, h => by cases h; exact .str x
  | .list ds, _, h => by
    cases h with
    | lst h1 h2 => exact .lst (s _ _ h1) (dpAll_mono s ds _ h2)
  | .tuple ds, _, h => by
    cases h with
    | tup h1 h2 => exact .tup (s _ _ h1) (dpAll_mono s ds _ h2)
  | .dict _, _, h => by
    cases h with
    | scr h1 h2 => exact .scr (s.seq h1) h2
theorem dpAll_mono {K : PySem.W.Frag} {F F' : Hp} (s : Same F F') : ∀ (ds : List PyData) (vs : List V), DpAll K F vs ds → DpAll K F' vs ds
  | [], _, h => by cases h; exact .nil
  | d :: ds, _, h => by
    cases h with
    | cons h1 h2 => exact .cons (dp_mono s d _ h1) (dpAll_mono s ds _ h2)
end
/-! as the data of the library, where it is laid plain -/
mutual
theorem dp_lib {K : PySem.W.Frag} {F : Hp} : ∀ (d : PyData) (v : V), d.canLay0 = true → Dp K F v d → L2.Dp K F v d
  | .none, _, _, h => by cases h; exact .non
  | .bool b, _, _, h => by cases h; exact .bl b
  | .int i, _, _, h => by cases h; exact .int i
  | .str x, _, _, h => by cases h; exact .str x
  | .list ds, _, c, h => by
    cases h with
    | lst h1 h2 => exact .lst (SqL.of h1) (dpAll_lib ds _ (by simpa [PyData.canLay0] using c) h2)
  | .tuple ds, _, c, h => by
    cases h with
    | tup h1 h2 => exact .tup (SqT.of h1) (dpAll_lib ds _ (by simpa [PyData.canLay0] using c) h2)
  | .dict _, _, c, _ => by simp [PyData.canLay0] at c
theorem dpAll_lib {K : PySem.W.Frag} {F : Hp} : ∀ (ds : List PyData) (vs : List V), PyData.canLayAll0 ds = true → DpAll K F vs ds → L2.DpAll K F vs ds
  | [], _, _, h => by cases h; exact .nil
  | d :: ds, _, c, h => by
    simp only [PyData.canLayAll0, Bool.and_eq_true] at c
    cases h with
    | cons h1 h2 => exact .cons (dp_lib d _ c.1 h1) (dpAll_lib ds _ c.2 h2)
end
section
variable {K : PySem.W.Frag} {F F' H H' : Hp}
theorem Dp.up {v : V} {d : PyData} (h : Dp K F v d) (s : Same F F') : Dp K F' v d := dp_mono s d v h
theorem DpAll.up {vs : List V} {ds : List PyData} (h : DpAll K F vs ds) (s : Same F F') : DpAll K F' vs ds := dpAll_mono s ds vs h
theorem DpAll.len : ∀ {vs : List V} {ds : List PyData}, DpAll K F vs ds → vs.length = ds.length
  | _, _, .nil => rfl
  | _, _, .cons _ h => by simp [DpAll.len h]
theorem DpAll.append : ∀ {vs ws : List V} {ds es : List PyData}, DpAll K F vs ds → DpAll K F ws es → DpAll K F (vs ++ ws) (ds ++ es)
  | _, _, _, _, .nil, h => h
  | _, _, _, _, .cons h1 h2, h => .cons h1 (DpAll.append h2 h)
theorem DpAll.take : ∀ {vs : List V} {ds : List PyData} (n : Nat), DpAll K F vs ds → DpAll K F (vs.take n) (ds.take n)
  | _, _, 0, _ => by simp; exact .nil
  | _, _, n + 1, .nil => by simp; exact .nil
  | _, _, n + 1, .cons h1 h2 => by simp only [List.take_succ_cons]; exact .cons h1 (DpAll.take n h2)
theorem DpAll.drop : ∀ {vs : List V} {ds : List PyData} (n : Nat), DpAll K F vs ds → DpAll K F (vs.drop n) (ds.drop n)
  | _, _, 0, h => by simpa using h
  | _, _, n + 1, .nil => by simp; exact .nil
  | _, _, n + 1, .cons h1 h2 => by simp only [List.drop_succ_cons]; exact DpAll.drop n h2
theorem DpAll.get : ∀ {vs : List V} {ds : List PyData} {i : Nat} {v : V}, DpAll K F vs ds → vs[i]? = some v → ∃ d, ds[i]? = some d ∧ Dp K F v d
  | _, _, _, _, .nil, e => by simp at e
  | _, _, 0, _, .cons h _, e => by simp at e; subst e; exact ⟨_, rfl, h⟩
  | _, _, i + 1, v, .cons _ h, e => by
    obtain ⟨d, h1, h2⟩ := DpAll.get (i := i) (v := v) h (by simpa using e)
    exact ⟨d, by simpa using h1, h2⟩
theorem DpAll.getD : ∀ {vs : List V} {ds : List PyData} {i : Nat} {d : PyData}, DpAll K F vs ds → ds[i]? = some d → ∃ v, vs[i]? = some v ∧ Dp K F v d
  | _, _, _, _, .nil, e => by simp at e
  | _, _, 0, _, .cons h _, e => by simp at e; subst e; exact ⟨_, rfl, h⟩
  | _, _, i + 1, d, .cons _ h, e => by
    obtain ⟨v, h1, h2⟩ := DpAll.getD (i := i) (d := d) h (by simpa using e)
    exact ⟨v, by simpa using h1, h2⟩
theorem DpAll.set {v : V} {d : PyData} (h : Dp K F v d) : ∀ {vs : List V} {ds : List PyData} (i : Nat), DpAll K F vs ds → DpAll K F (vs.set i v) (ds.set i d)
  | _, _, _, .nil => by simp; exact .nil
  | _, _, 0, .cons _ t => by simp; exact .cons h t
  | _, _, i + 1, .cons q t => by simp only [List.set_cons_succ]; exact .cons q (DpAll.set h i t)
theorem DpAll.ints : ∀ {vs : List V} {ds : List PyData} {ns : List Int}, DpAll K F vs ds → intsD ds = some ns → vs = ns.map V.int
  | _, _, ns, .nil, e => by simp [intsD] at e; subst e; rfl
  | _, d :: ds, ns, .cons h1 h2, e => by
    cases d with
    | int i =>
      cases h1
      simp only [intsD] at e
      cases q : intsD ds with
      | none => rw [q] at e; simp at e
      | some ms =>
        rw [q] at e
        simp at e
        subst e
        rw [DpAll.ints h2 q]
        rfl
    | _ => simp [intsD] at e
theorem DpAll.ofInts : ∀ (ns : List Int), DpAll K F (ns.map V.int) (ofI ns)
  | [] => .nil
  | n :: ns => .cons (.int n) (DpAll.ofInts ns)
theorem intsD_ofI : ∀ {ds : List PyData} {ns : List Int}, intsD ds = some ns → ds = ofI ns
  | [], ns, e => by simp [intsD] at e; subst e; rfl
  | d :: ds, ns, e => by
    cases d with
    | int i =>
      simp only [intsD] at e
      cases q : intsD ds with
      | none => rw [q] at e; simp at e
      | some ms =>
        rw [q] at e
        simp at e
        subst e
        rw [intsD_ofI q]
        rfl
    | _ => simp [intsD] at e
theorem DpAll.bools : ∀ {vs : List V} {ds : List PyData} {bs : List Bool}, DpAll K F vs ds → boolsD ds = some bs → vs = bs.map V.bl
  | _, _, ns, .nil, e => by simp [boolsD] at e; subst e; rfl
  | _, d :: ds, ns, .cons h1 h2, e => by
    cases d with
    | bool i =>
      cases h1
      simp only [boolsD] at e
      cases q : boolsD ds with
      | none => rw [q] at e; simp at e
      | some ms =>
        rw [q] at e
        simp at e
        subst e
        rw [DpAll.bools h2 q]
        rfl
    | _ => simp [boolsD] at e
end

/-- the frozen part F and the heap H grow; what stands in H stays; what is frozen anew is new -/
structure Ext (F H F' H' : Hp) : Prop where
  ff : Same F F'
  hh : Same H H'
  fh : Same F' H'
  nw : ∀ a, H a ≠ none → F' a = F a
theorem Ext.refl {F H : Hp} (h : Same F H) : Ext F H F H := ⟨.refl _, .refl _, h, fun _ _ => rfl⟩
theorem Same.some_ne {H H' : Hp} (s : Same H H') {a : Addr} (h : H a ≠ none) : H' a ≠ none := by
  cases q : H a with
  | none => exact absurd q h
  | some o => rw [s a o q]; simp
theorem Ext.trans {F H F1 H1 F2 H2 : Hp} (a : Ext F H F1 H1) (b : Ext F1 H1 F2 H2) : Ext F H F2 H2 :=
  ⟨a.ff.trans b.ff, a.hh.trans b.hh, b.fh, fun c h => (b.nw c (Same.some_ne a.hh h)).trans (a.nw c h)⟩
theorem same_upd {H : Hp} {p : Addr} {o : HO} (h : H p = none) : Same H (upd H p o) := fun b x e => by
  rw [upd_ne (ne_of_none e h)]
  exact e
theorem Ext.pre {F H : Hp} (e : Same F H) {a : Addr} (h : H a = none) : F a = none := Same.free e h
/-- a new object that nobody freezes -/
theorem Ext.new {F H : Hp} {p : Addr} {o : HO} (s : Same F H) (h : H p = none) : Ext F H F (upd H p o) :=
  ⟨.refl _, same_upd h, s.trans (same_upd h), fun _ _ => rfl⟩
/-- a new object, frozen -/
theorem Ext.newF {F H : Hp} {p : Addr} {o : HO} (s : Same F H) (h : H p = none) : Ext F H (upd F p o) (upd H p o) :=
  ⟨same_upd (Ext.pre s h), same_upd h, fun b x e => by
    by_cases hb : b = p
    · subst hb
      rw [upd_same] at e ⊢
      exact e
    · rw [upd_ne hb] at e ⊢
      exact s b x e, fun a ha => upd_ne (fun z => ha (z ▸ h))⟩

def KVs (K : PySem.W.Frag) (F : Hp) : List (Key × V) → List (Int × PyData) → Prop :=
  Paired fun (p : Key × V) (q : Int × PyData) => p.1 = Sum.inl q.1 ∧ Dp K F p.2 q.2

/-- v is what r tells; a list of its own is none that stood in Hb, and is not frozen -/
def RepR (K : PySem.W.Frag) (Hb F H : Hp) (v : V) : Res → Prop
  | .v d => Dp K F v d
  | .l ds => ∃ a vs, v = .ref a ∧ Hb a = none ∧ F a = none ∧ H a = some (.lst vs) ∧ DpAll K F vs ds
  | .k kvs => ∃ a ws, v = .ref a ∧ Hb a = none ∧ F a = none ∧ H a = some (.dK ws) ∧ KVs K F ws kvs

/-- as data, perhaps a list that stands in H alone, its items frozen -/
def Sh (K : PySem.W.Frag) (F H : Hp) (v : V) (d : PyData) : Prop :=
  Dp K F v d ∨ ∃ ds a vs, d = .list ds ∧ v = .ref a ∧ H a = some (.lst vs) ∧ DpAll K F vs ds

section
variable {K : PySem.W.Frag} {F H F' H' : Hp} {v : V} {d : PyData}
theorem Sh.step (h : Sh K F H v d) (e : Ext F H F' H') : Sh K F' H' v d := by
  rcases h with h | ⟨ds, a, vs, e1, e2, e3, e4⟩
  · exact .inl (Dp.up h e.ff)
  · exact .inr ⟨ds, a, vs, e1, e2, e.hh _ _ e3, DpAll.up e4 e.ff⟩
/-- as data of the whole heap -/
theorem Sh.dp (h : Sh K F H v d) (s : Same F H) : Dp K H v d := by
  rcases h with h | ⟨ds, a, vs, e1, e2, e3, e4⟩
  · exact Dp.up h s
  · subst e1 e2
    exact .lst e3 (DpAll.up e4 s)
theorem Sh.list {ds : List PyData} (h : Sh K F H v (.list ds)) (s : Same F H) : ∃ a vs, v = .ref a ∧ H a = some (.lst vs) ∧ DpAll K F vs ds := by
  rcases h with h | ⟨ds', a, vs, e1, e2, e3, e4⟩
  · cases h with
    | lst h1 h2 => exact ⟨_, _, rfl, s _ _ h1, h2⟩
  · cases e1
    exact ⟨a, vs, e2, e3, e4⟩
theorem Sh.tuple {ds : List PyData} (h : Sh K F H v (.tuple ds)) (s : Same F H) : ∃ a vs, v = .ref a ∧ F a = some (.tup vs) ∧ H a = some (.tup vs) ∧ DpAll K F vs ds := by
  rcases h with h | ⟨ds', a, vs, e1, e2, e3, e4⟩
  · cases h with
    | tup h1 h2 => exact ⟨_, _, rfl, h1, s _ _ h1, h2⟩
  · cases e1
theorem Sh.int {i : Int} (h : Sh K F H v (.int i)) : v = .int i := by
  rcases h with h | ⟨ds, a, vs, e1, _⟩
  · cases h; rfl
  · cases e1
theorem Sh.bool {b : Bool} (h : Sh K F H v (.bool b)) : v = .bl b := by
  rcases h with h | ⟨ds, a, vs, e1, _⟩
  · cases h; rfl
  · cases e1
theorem Sh.str {x : Str} (h : Sh K F H v (.str x)) : v = .str x := by
  rcases h with h | ⟨ds, a, vs, e1, _⟩
  · cases h; rfl
  · cases e1
theorem Sh.none (h : Sh K F H v .none) : v = .non := by
  rcases h with h | ⟨ds, a, vs, e1, _⟩
  · cases h; rfl
  · cases e1
end

/-- what is fixed in a def's run: the written part, the frozen part and the heap at the entry, what is wanted of an error, the errors' classes -/
structure Fx where
  K : PySem.W.Frag
  F0 : Hp
  H0 : Hp
  E : XK
  cls : Nat → Addr

def own : Res → Prop
  | .v _ => False
  | _ => True

structure Rel (Z : Fx) (σ : L2.St) (r : Env) (F H : Hp) : Prop where
  ext : Ext Z.F0 Z.H0 F H
  sl : ∀ (i : Nat) x, r[i]? = some (some x) → ∃ v, σ[i]? = some (some v) ∧ RepR Z.K Z.H0 F H v x
  ap : ∀ (i j : Nat) x y a, i ≠ j → r[i]? = some (some x) → r[j]? = some (some y) → own x → own y → σ[i]? = some (some (.ref a)) → σ[j]? ≠ some (some (.ref a))
  len : σ.length = r.length

section
variable {Z : Fx} {σ : L2.St} {r : Env} {F H F' H' : Hp}
theorem Rel.fh (R : Rel Z σ r F H) : Same F H := R.ext.fh
theorem KVs.up {K : PySem.W.Frag} {ws : List (Key × V)} {kvs : List (Int × PyData)} (h : KVs K F ws kvs) (s : Same F F') : KVs K F' ws kvs := Paired.mapP h fun p q z => ⟨z.1, Dp.up z.2 s⟩
theorem RepR.step {K : PySem.W.Frag} {Hb : Hp} {v : V} {x : Res} (h : RepR K Hb F H v x) (e : Ext F H F' H') : RepR K Hb F' H' v x := by
  cases x with
  | v d => exact Dp.up h e.ff
  | l ds =>
    obtain ⟨a, vs, e1, e2, e3, e4, e5⟩ := h
    exact ⟨a, vs, e1, e2, (e.nw a (by rw [e4]; simp)).trans e3, e.hh _ _ e4, DpAll.up e5 e.ff⟩
  | k kvs =>
    obtain ⟨a, vs, e1, e2, e3, e4, e5⟩ := h
    exact ⟨a, vs, e1, e2, (e.nw a (by rw [e4]; simp)).trans e3, e.hh _ _ e4, KVs.up e5 e.ff⟩
theorem Rel.step (R : Rel Z σ r F H) (e : Ext F H F' H') : Rel Z σ r F' H' :=
  ⟨R.ext.trans e, fun i x h => let ⟨v, h1, h2⟩ := R.sl i x h; ⟨v, h1, h2.step e⟩, R.ap, R.len⟩
/-- what was new within a later heap is new within an earlier one -/
theorem RepR.early {K : PySem.W.Frag} {Hb Hb' : Hp} {v : V} {x : Res} (s : Same Hb Hb') (h : RepR K Hb' F H v x) : RepR K Hb F H v x := by
  cases x with
  | v d => exact h
  | l ds =>
    obtain ⟨a, vs, e1, e2, e3⟩ := h
    exact ⟨a, vs, e1, Same.free s e2, e3⟩
  | k ds =>
    obtain ⟨a, vs, e1, e2, e3⟩ := h
    exact ⟨a, vs, e1, Same.free s e2, e3⟩
/-- a list of one's own, frozen -/
theorem RepR.freeze {K : PySem.W.Frag} {v : V} {x : Res} {d : PyData} (e : Ext F H F' H') (h : RepR K H F' H' v x) (q : x.dat = .ok d) : ∃ F'', Ext F H F'' H' ∧ Same F' F'' ∧ Dp K F'' v d := by
  cases x with
  | v d' =>
    cases q
    exact ⟨F', e, .refl _, h⟩
  | l ds =>
    cases q
    obtain ⟨a, vs, e1, e2, e3, e4, e5⟩ := h
    subst e1
    have s : Same F' (upd F' a (.lst vs)) := same_upd e3
    refine ⟨upd F' a (.lst vs), ⟨e.ff.trans s, e.hh, fun b o q => ?_, fun b hb => ?_⟩, s, .lst upd_same (DpAll.up e5 s)⟩
    · by_cases hb : b = a
      · subst hb
        rw [upd_same] at q
        cases q
        exact e4
      · rw [upd_ne hb] at q
        exact e.fh b o q
    · have hne : b ≠ a := fun z => hb (z ▸ e2)
      rw [upd_ne hne]
      exact e.nw b hb
  | k _ => cases q
end

/-- what is wanted of an outcome: of a value, of an error -/
def Out {α : Type} (Z : Fx) (H : Hp) (o : O α) (k : α → Prop) : Prop := match o with
  | .ok a => k a
  | .ex c => ∀ H', Same H H' → Z.E (.ref (Z.cls c)) none H'
  | .no => False
section
variable {Z : Fx} {H H' : Hp} {α β : Type}
theorem Out.bind {o : O α} {f : α → O β} {k : β → Prop} : Out Z H (o.bind f) k ↔ Out Z H o fun a => Out Z H (f a) k := by
  cases o <;> exact Iff.rfl
theorem Out.mono {o : O α} {k k' : α → Prop} (h : Out Z H o k) (q : ∀ a, o = .ok a → k a → k' a) : Out Z H o k' := by
  cases o with
  | ok a => exact q a rfl h
  | ex c => exact h
  | no => exact h
theorem Out.later {o : O α} {k : α → Prop} (h : Out Z H o k) (s : Same H H') : Out Z H' o k := by
  cases o with
  | ok a => exact h
  | ex c => exact fun H2 s2 => h H2 (s.trans s2)
  | no => exact h
end

/-- the readings: of an expression, of one that is only looked at, of a test, of arguments -/
def TEv (Z : Fx) (f : Env → O Res) : TE := fun σ H Q => ∃ F r, Rel Z σ r F H ∧ Out Z H (f r) fun x => ∀ v F' H', Ext F H F' H' → RepR Z.K H F' H' v x → Q v H'
def TDv (Z : Fx) (f : Env → O PyData) : TE := fun σ H Q => ∃ F r, Rel Z σ r F H ∧ Out Z H (f r) fun d => ∀ v F' H', Ext F H F' H' → Dp Z.K F' v d → Q v H'
def TPv (Z : Fx) (f : Env → O PyData) : TE := fun σ H Q => ∃ F r, Rel Z σ r F H ∧ Out Z H (f r) fun d => ∀ v F' H', Ext F H F' H' → Sh Z.K F' H' v d → Q v H'
def TTv (Z : Fx) (f : Env → O Bool) : TT := fun σ H Q => ∃ F r, Rel Z σ r F H ∧ Out Z H (f r) fun b => ∀ F' H', Ext F H F' H' → Q b H'
def TAv (Z : Fx) (f : Env → O (List PyData)) : TA := fun σ H Q => ∃ F r, Rel Z σ r F H ∧ Out Z H (f r) fun ds => ∀ vs F' H', Ext F H F' H' → DpAll Z.K F' vs ds → Q vs H'

section
variable {X : Cx} {Z : Fx} {e : Expr}
theorem _root_.L2.PE.imp {t t' : TE} (h : PE X e t) (q : ∀ σ H Q, t' σ H Q → t σ H Q) : PE X e t' := ⟨fun pins s σ H Q I z => h.run pins s σ H Q I (q σ H Q z)⟩
theorem _root_.L2.PT.imp {t t' : TT} (h : PT X e t) (q : ∀ σ H Q, t' σ H Q → t σ H Q) : PT X e t' := ⟨fun pins s σ H Q I z => h.run pins s σ H Q I (q σ H Q z)⟩
theorem _root_.L2.PA.imp {es : List Expr} {t t' : TA} (h : PA X es t) (q : ∀ σ H Q, t' σ H Q → t σ H Q) : PA X es t' := ⟨fun pos pins s σ H Q I z => h.run pos pins s σ H Q I (q σ H Q z)⟩
theorem _root_.L2.PS.imp {st : Stmt} {t t' : TS} (h : PS X st t) (q : ∀ D σ H, t' D σ H → t D σ H) : PS X st t' := ⟨fun pins s σ H D I z => h.run pins s σ H D I (q D σ H z)⟩
theorem _root_.L2.PSs.imp {st : List Stmt} {t t' : TS} (h : PSs X st t) (q : ∀ D σ H, t' D σ H → t D σ H) : PSs X st t' := ⟨fun pins s σ H D I z => h.run pins s σ H D I (q D σ H z)⟩

theorem toD {f : Env → O Res} (h : PE X e (TEv Z f)) : PE X e (TDv Z fun r => dat (f r)) := h.imp fun σ H Q ⟨F, r, R, o⟩ => ⟨F, r, R, (Out.bind.mp o).mono fun x _ hx v F' H' e rep => by
  cases q : x.dat with
  | ok d =>
    rw [q] at hx
    obtain ⟨F'', e', _, dp⟩ := rep.freeze e q
    exact hx v F'' H' e' dp
  | ex c => rw [q] at hx; cases x <;> cases q
  | no => rw [q] at hx; exact hx.elim⟩
theorem toP {f : Env → O PyData} (h : PE X e (TDv Z f)) : PE X e (TPv Z f) := h.imp fun σ H Q ⟨F, r, R, o⟩ => ⟨F, r, R, o.mono fun d _ hd v F' H' e dp => hd v F' H' e (.inl dp)⟩
/-- a value of data from a rule that looks -/
theorem ofV {f : Env → O PyData} (h : PE X e (TDv Z f)) : PE X e (TEv Z fun r => (f r).bind fun d => .ok (.v d)) := h.imp fun σ H Q ⟨F, r, R, o⟩ => ⟨F, r, R, (Out.bind.mp o).mono fun d _ hd v F' H' e dp => hd v F' H' e dp⟩

/-! names, constants -/
theorem sE_var {i : Nat} {x : Str} {pos : Pos} (hN : X.N[i]? = some x) (hv : Vis X.env.scope x) (hd : (x == ("__debug__" : Str)) = false) (hcd : (x == ("__classdict__" : Str)) = false) :
    PE X (.Name x pos) (TEv Z fun r => match nth r i with | some (.v d) => .ok (.v d) | _ => .no) := (pe_var hN hv hd hcd).imp fun σ H Q ⟨F, r, R, o⟩ => by
  dsimp only at o
  cases q : nth r i with
  | none => rw [q] at o; exact o.elim
  | some y =>
    cases y with
    | v d =>
      rw [q] at o
      obtain ⟨v, h1, h2⟩ := R.sl i _ ((nth_iff r i _).mp q)
      exact ⟨v, h1, o v F H (.refl R.fh) h2⟩
    | l _ => rw [q] at o; exact o.elim
    | k _ => rw [q] at o; exact o.elim
theorem sP_var {i : Nat} {x : Str} {pos : Pos} (hN : X.N[i]? = some x) (hv : Vis X.env.scope x) (hd : (x == ("__debug__" : Str)) = false) (hcd : (x == ("__classdict__" : Str)) = false) :
    PE X (.Name x pos) (TPv Z fun r => peek r i) := (pe_var hN hv hd hcd).imp fun σ H Q ⟨F, r, R, o⟩ => by
  dsimp only [peek] at o
  cases q : nth r i with
  | none => rw [q] at o; exact o.elim
  | some y =>
    rw [q] at o
    obtain ⟨v, h1, h2⟩ := R.sl i _ ((nth_iff r i _).mp q)
    refine ⟨v, h1, ?_⟩
    cases y with
    | v d => exact o v F H (.refl R.fh) (.inl h2)
    | l ds =>
      obtain ⟨a, vs, e1, _, _, e4, e5⟩ := h2
      exact o v F H (.refl R.fh) (.inr ⟨ds, a, vs, rfl, e1, e4, e5⟩)
    | k _ => exact o.elim
theorem sE_c {v : V} {d : PyData} (h : PE X e (tC v)) (hv : ∀ F, Dp Z.K F v d) : PE X e (TEv Z fun _ => .ok (.v d)) := h.imp fun σ H Q ⟨F, r, R, o⟩ => o v F H (.refl R.fh) (hv F)
end
end HF

set_option Elab.async false
set_option linter.all false
set_option maxRecDepth 100000
set_option maxHeartbeats 4000000
/-! ### C: operators, comparisons on data -/
namespace HF
open PySem PySem.Spec PyProof.Rows L2

def Ok {α : Type} (o : O α) (k : α → Prop) : Prop := match o with
  | .ok a => k a
  | _ => False
theorem Ok.mono {α : Type} {o : O α} {k k' : α → Prop} (h : Ok o k) (q : ∀ a, o = .ok a → k a → k' a) : Ok o k' := by
  cases o with
  | ok a => exact q a rfl h
  | ex c => exact h
  | no => exact h
theorem Ok.bind {α β : Type} {o : O α} {f : α → O β} {k : β → Prop} : Ok (o.bind f) k ↔ Ok o fun a => Ok (f a) k := by
  cases o <;> exact Iff.rfl
/-- never an error -/
def Nx {α : Type} (o : O α) : Prop := ∀ c, o ≠ .ex c
theorem Out.ok {Z : Fx} {H : Hp} {α : Type} {o : O α} {k : α → Prop} (h : Out Z H o k) (n : Nx o) : Ok o k := by
  cases o with
  | ok a => exact h
  | ex c => exact absurd rfl (n c)
  | no => exact h

/-- a value handed on: what is wanted of each -/
def Give (K : PySem.W.Frag) (F H : Hp) (Q : VK) (x : Res) : Prop := ∀ v F' H', Ext F H F' H' → RepR K H F' H' v x → Q v H'
def rOp (K : PySem.W.Frag) (g : PyData → PyData → O Res) : R2 := fun x y H Q => ∃ F dx dy, Same F H ∧ Sh K F H x dx ∧ Sh K F H y dy ∧ Ok (g dx dy) (Give K F H Q)
def rC1 (K : PySem.W.Frag) (g : PyData → O Res) : List V → Hp → VK → Prop := fun xs H Q => ∃ F x d, xs = [x] ∧ Same F H ∧ Sh K F H x d ∧ Ok (g d) (Give K F H Q)

section
variable {K : PySem.W.Frag} {F H : Hp} {Q : VK}
theorem Give.int {i : Int} (s : Same F H) (g : Give K F H Q (.v (.int i))) : Q (.int i) H := g _ F H (.refl s) (.int i)
theorem Give.bl {b : Bool} (s : Same F H) (g : Give K F H Q (.v (.bool b))) : Q (.bl b) H := g _ F H (.refl s) (.bl b)
theorem Give.str {x : Str} (s : Same F H) (g : Give K F H Q (.v (.str x))) : Q (.str x) H := g _ F H (.refl s) (.str x)
theorem Give.old {v : V} {d : PyData} (s : Same F H) (g : Give K F H Q (.v d)) (h : Dp K F v d) : Q v H := g _ F H (.refl s) h
theorem Give.newL {p : Addr} {vs : List V} {ds : List PyData} (s : Same F H) (g : Give K F H Q (.l ds)) (hp : H p = none) (h : DpAll K F vs ds) : Q (.ref p) (upd H p (.lst vs)) :=
  g _ F _ (Ext.new s hp) ⟨p, vs, rfl, hp, Ext.pre s hp, upd_same, h⟩
theorem Give.newT {p : Addr} {vs : List V} {ds : List PyData} (s : Same F H) (g : Give K F H Q (.v (.tuple ds))) (hp : H p = none) (h : DpAll K F vs ds) : Q (.ref p) (upd H p (.tup vs)) :=
  g _ (upd F p (.tup vs)) _ (Ext.newF s hp) (.tup upd_same (DpAll.up h (same_upd (Ext.pre s hp))))
end
theorem cap_line {n : Nat} (h : n ≤ cap) : n ≤ sizeLine := by
  rw [sizeLine_eq]
  unfold cap at h
  omega
theorem small64_iff {i : Int} (h : small64 i = true) : -(2 ^ 64) < i ∧ i < 2 ^ 64 := by
  unfold small64 at h
  simpa using h

section
variable {K : PySem.W.Frag} {F : Hp}
theorem DpAll.rep {vs : List V} {ds : List PyData} (h : DpAll K F vs ds) : ∀ k : Nat, DpAll K F (List.replicate k vs).flatten (List.replicate k ds).flatten
  | 0 => .nil
  | k + 1 => by
    rw [List.replicate_succ, List.replicate_succ, List.flatten_cons, List.flatten_cons]
    exact DpAll.append h (DpAll.rep h k)
theorem DpAll.nil_iff {vs : List V} {ds : List PyData} (h : DpAll K F vs ds) : vs = [] ↔ ds = [] := by
  cases h <;> simp
end

section
variable {X : Cx}
theorem d_add : OpR X (binaryOp .Add) (rOp X.K (binD .add)) := by
  intro pins s σ H x y v u Q I rx ry h
  obtain ⟨F, dx, dy, sm, hx, hy, g⟩ := h
  cases dx <;> cases dy <;> first | exact g.elim | skip
  · obtain rfl := hx.int
    obtain rfl := hy.int
    exact op_add pins s σ H _ _ v u Q I rx ry ⟨_, _, rfl, rfl, Give.int sm g⟩
  · obtain rfl := hx.str
    obtain rfl := hy.str
    simp only [binD] at g
    split at g
    · rename_i hz
      exact op_add_str pins s σ H _ _ v u Q I rx ry ⟨_, _, rfl, rfl, cap_line hz, Give.str sm g⟩
    · exact g.elim
  · obtain ⟨a, vs, rfl, h1, h2⟩ := hx.list sm
    obtain ⟨a', vs', rfl, h1', h2'⟩ := hy.list sm
    simp only [binD] at g
    split at g
    · rename_i hz
      rw [← h2.len, ← h2'.len] at hz
      exact op_cat pins s σ H _ _ v u Q I rx ry ⟨_, _, _, _, rfl, rfl, h1, h1', cap_line hz, fun p hp => Give.newL sm g hp (h2.append h2')⟩
    · exact g.elim
  · obtain ⟨a, vs, rfl, h0, h1, h2⟩ := hx.tuple sm
    obtain ⟨a', vs', rfl, h0', h1', h2'⟩ := hy.tuple sm
    simp only [binD] at g
    split at g
    · rename_i hz
      rw [← h2.len, ← h2'.len] at hz
      refine op_catA pins s σ H _ _ v u Q I rx ry ⟨_, _, _, _, rfl, rfl, SqT.of h1, SqT.of h1', cap_line hz, fun e => ?_, fun _ e => ?_, fun _ _ p hp => Give.newT sm g hp (h2.append h2')⟩
      · rw [h2.nil_iff.mp e, List.nil_append] at g
        exact Give.old sm g (.tup h0' h2')
      · rw [h2'.nil_iff.mp e, List.append_nil] at g
        exact Give.old sm g (.tup h0 h2)
    · exact g.elim
theorem d_sub : OpR X (binaryOp .Sub) (rOp X.K (binD .sub)) := by
  intro pins s σ H x y v u Q I rx ry h
  obtain ⟨F, dx, dy, sm, hx, hy, g⟩ := h
  cases dx <;> cases dy <;> first | exact g.elim | skip
  obtain rfl := hx.int
  obtain rfl := hy.int
  exact op_sub pins s σ H _ _ v u Q I rx ry ⟨_, _, rfl, rfl, Give.int sm g⟩
theorem d_mul : OpR X (binaryOp .Mult) (rOp X.K (binD .mul)) := by
  intro pins s σ H x y v u Q I rx ry h
  obtain ⟨F, dx, dy, sm, hx, hy, g⟩ := h
  cases dx <;> cases dy <;> first | exact g.elim | skip
  · obtain rfl := hx.int
    obtain rfl := hy.int
    simp only [binD] at g
    split at g
    · rename_i hz
      rw [Bool.or_eq_true] at hz
      exact op_mul pins s σ H _ _ v u Q I rx ry ⟨_, _, rfl, rfl, hz.imp small64_iff small64_iff, Give.int sm g⟩
    · exact g.elim
  · obtain ⟨a, vs, rfl, h1, h2⟩ := hx.list sm
    obtain rfl := hy.int
    simp only [binD] at g
    split at g
    · rename_i hz
      obtain ⟨k0, k1, k2⟩ := hz
      rw [← h2.len] at k2
      refine op_rep pins s σ H _ _ v u Q I rx ry ⟨_, _, _, rfl, rfl, h1, by omega, by omega, ?_, fun p hp => Give.newL sm g hp (h2.rep _)⟩
      rw [sizeLine_eq]
      exact Nat.le_trans (Nat.mul_le_mul k2 (show _ ≤ 1000 by omega)) (by decide)
    · exact g.elim
theorem d_fdiv : OpR X (binaryOp .FloorDiv) (rOp X.K (binD .fdiv)) := by
  intro pins s σ H x y v u Q I rx ry h
  obtain ⟨F, dx, dy, sm, hx, hy, g⟩ := h
  cases dx <;> cases dy <;> first | exact g.elim | skip
  obtain rfl := hx.int
  obtain rfl := hy.int
  simp only [binD] at g
  split at g
  · rename_i hz
    exact op_fdivW pins s σ H _ _ v u Q I rx ry ⟨_, _, rfl, rfl, wide_div (b := 64) hz.1 (by omega) (by decide) (by decide), Give.int sm g⟩
  · exact g.elim
theorem d_mod : OpR X (binaryOp .Mod) (rOp X.K (binD .mod)) := by
  intro pins s σ H x y v u Q I rx ry h
  obtain ⟨F, dx, dy, sm, hx, hy, g⟩ := h
  cases dx <;> cases dy <;> first | exact g.elim | skip
  obtain rfl := hx.int
  obtain rfl := hy.int
  simp only [binD] at g
  split at g
  · rename_i hz
    exact op_mod pins s σ H _ _ v u Q I rx ry ⟨_, _, rfl, rfl, hz, Give.int sm g⟩
  · exact g.elim
theorem d_pow : OpR X (binaryOp .Pow) (rOp X.K (binD .pow)) := by
  intro pins s σ H x y v u Q I rx ry h
  obtain ⟨F, dx, dy, sm, hx, hy, g⟩ := h
  cases dx <;> cases dy <;> first | exact g.elim | skip
  obtain rfl := hx.int
  obtain rfl := hy.int
  simp only [binD] at g
  split at g
  · rename_i hz
    have q := small64_iff hz.2.2
    exact op_pow pins s σ H _ _ v u Q I rx ry ⟨_, _, rfl, rfl, ⟨hz.1, by omega, by omega⟩, Give.int sm g⟩
  · exact g.elim
def bopOf : Bop → Operator
  | .add => .Add
  | .sub => .Sub
  | .mul => .Mult
  | .fdiv => .FloorDiv
  | .mod => .Mod
  | .pow => .Pow
theorem d_bin (op : Bop) : OpR X (binaryOp (bopOf op)) (rOp X.K (binD op)) := by
  cases op
  · exact d_add
  · exact d_sub
  · exact d_mul
  · exact d_fdiv
  · exact d_mod
  · exact d_pow

/-! comparisons -/
def cB (o : O Bool) : O Res := o.bind fun c => .ok (.v (.bool c))
theorem unscr_dp {K : PySem.W.Frag} {F H : Hp} {v : V} {d : PyData} (s : Same F H) (h : Sh K F H v d) (c : SeqAt.shaped (unscr d) = true) : L2.Dp K H v (unscr d) := by
  cases d with
  | dict kvs =>
    rcases h with h | ⟨ds, a, vs, e1, _⟩
    · cases h with
      | scr h1 h2 =>
        rename_i ns
        subst h2
        have e : ∀ ms : List Int, keysD (ms.map fun n => ((.int n, .none) : PyData × PyData)) = ofI ms := by
          intro ms
          induction ms with
          | nil => rfl
          | cons m ms ih => simp only [List.map_cons, keysD, ofI, ih]
        show L2.Dp K H _ (.list (keysD (ns.map fun n => (.int n, .none))))
        rw [e]
        have q : ∀ ms : List Int, L2.DpAll K H (ms.map V.int) (ofI ms) := by
          intro ms
          induction ms with
          | nil => exact .nil
          | cons m ms ih => exact .cons (.int m) ih
        exact .lst (s.seq h1) (q ns)
    · cases e1
  | _ => exact dp_lib _ _ (SeqAt.canLay_of_shaped c) (h.dp s)
theorem shaped_scr {d : PyData} (h : SeqAt.shaped d = true) : unscr d = d := by
  cases d with
  | dict _ => simp [SeqAt.shaped, PyData.canLay0] at h
  | _ => rfl
theorem d_eq (hu : X.A.units + 64 < cLine) : OpR X (compareOp .Eq) (rOp X.K fun a b => cB (cmpD .eq a b)) := by
  intro pins s σ H x y v u Q I rx ry h
  obtain ⟨F, dx, dy, sm, hx, hy, g⟩ := h
  have g' : Ok (cB (if SeqAt.shaped (unscr dx) && SeqAt.shaped dy then .ok (PyData.eqv (unscr dx) dy) else .no)) (Give X.K F H Q) := by
    cases dx <;> exact g
  split at g'
  · rename_i hz
    rw [Bool.and_eq_true] at hz
    have ey := shaped_scr hz.2
    refine op_eqD hu pins s σ H _ _ v u Q I rx ry ⟨_, _, unscr_dp sm hx hz.1, ey ▸ unscr_dp sm hy (by rw [ey]; exact hz.2), hz.1, hz.2, Give.bl sm g'⟩
  · exact g'.elim
theorem d_ne (hu : X.A.units + 64 < cLine) : OpR X (compareOp .NotEq) (rOp X.K fun a b => cB (cmpD .ne a b)) := by
  intro pins s σ H x y v u Q I rx ry h
  obtain ⟨F, dx, dy, sm, hx, hy, g⟩ := h
  have g' : Ok (cB (if SeqAt.shaped (unscr dx) && SeqAt.shaped dy then .ok (!PyData.eqv (unscr dx) dy) else .no)) (Give X.K F H Q) := by
    cases dx <;> exact g
  split at g'
  · rename_i hz
    rw [Bool.and_eq_true] at hz
    have ey := shaped_scr hz.2
    refine op_neD hu pins s σ H _ _ v u Q I rx ry ⟨_, _, unscr_dp sm hx hz.1, ey ▸ unscr_dp sm hy (by rw [ey]; exact hz.2), hz.1, hz.2, Give.bl sm g'⟩
  · exact g'.elim
theorem d_lt : OpR X (compareOp .Lt) (rOp X.K fun a b => cB (cmpD .lt a b)) := by
  intro pins s σ H x y v u Q I rx ry h
  obtain ⟨F, dx, dy, sm, hx, hy, g⟩ := h
  cases dx <;> cases dy <;> first | exact g.elim | skip
  obtain rfl := hx.int
  obtain rfl := hy.int
  exact op_lt pins s σ H _ _ v u Q I rx ry ⟨_, _, rfl, rfl, Give.bl sm g⟩
theorem d_le : OpR X (compareOp .LtE) (rOp X.K fun a b => cB (cmpD .le a b)) := by
  intro pins s σ H x y v u Q I rx ry h
  obtain ⟨F, dx, dy, sm, hx, hy, g⟩ := h
  cases dx <;> cases dy <;> first | exact g.elim | skip
  obtain rfl := hx.int
  obtain rfl := hy.int
  exact op_le pins s σ H _ _ v u Q I rx ry ⟨_, _, rfl, rfl, Give.bl sm g⟩
theorem d_gt : OpR X (compareOp .Gt) (rOp X.K fun a b => cB (cmpD .gt a b)) := by
  intro pins s σ H x y v u Q I rx ry h
  obtain ⟨F, dx, dy, sm, hx, hy, g⟩ := h
  cases dx <;> cases dy <;> first | exact g.elim | skip
  obtain rfl := hx.int
  obtain rfl := hy.int
  exact op_gt pins s σ H _ _ v u Q I rx ry ⟨_, _, rfl, rfl, Give.bl sm g⟩
theorem d_ge : OpR X (compareOp .GtE) (rOp X.K fun a b => cB (cmpD .ge a b)) := by
  intro pins s σ H x y v u Q I rx ry h
  obtain ⟨F, dx, dy, sm, hx, hy, g⟩ := h
  cases dx <;> cases dy <;> first | exact g.elim | skip
  obtain rfl := hx.int
  obtain rfl := hy.int
  exact op_ge pins s σ H _ _ v u Q I rx ry ⟨_, _, rfl, rfl, Give.bl sm g⟩
theorem Sh.isnon {K : PySem.W.Frag} {F H : Hp} {v : V} {d : PyData} (h : Sh K F H v d) : decide (v = .non) = isNoneD d := by
  rcases h with h | ⟨ds, a, vs, e1, e2, _⟩
  · cases h <;> rfl
  · subst e1 e2
    rfl
theorem d_is : OpR X (compareOp .Is) (rOp X.K fun a b => cB (cmpD .is a b)) := by
  intro pins s σ H x y v u Q I rx ry h
  obtain ⟨F, dx, dy, sm, hx, hy, g⟩ := h
  cases dy with
  | none =>
    obtain rfl := hy.none
    have g' : Ok (cB (.ok (isNoneD dx))) (Give X.K F H Q) := by cases dx <;> exact g
    refine op_isN pins s σ H _ _ v u Q I rx ry ⟨rfl, ?_⟩
    rw [hx.isnon]
    exact Give.bl sm g'
  | bool b =>
    cases dx with
    | bool a =>
      obtain rfl := hx.bool
      obtain rfl := hy.bool
      refine op_is_bl pins s σ H _ _ v u Q I rx ry ⟨_, _, rfl, rfl, ?_⟩
      have e : decide (a = b) = (a == b) := by cases a <;> cases b <;> rfl
      rw [e]
      exact Give.bl sm g
    | _ => exact g.elim
  | _ => cases dx <;> exact g.elim
theorem d_isn : OpR X (compareOp .IsNot) (rOp X.K fun a b => cB (cmpD .isn a b)) := by
  intro pins s σ H x y v u Q I rx ry h
  obtain ⟨F, dx, dy, sm, hx, hy, g⟩ := h
  cases dy with
  | none =>
    obtain rfl := hy.none
    have g' : Ok (cB (.ok (!isNoneD dx))) (Give X.K F H Q) := by cases dx <;> exact g
    refine op_notN pins s σ H _ _ v u Q I rx ry ⟨rfl, ?_⟩
    rw [hx.isnon]
    exact Give.bl sm g'
  | bool b =>
    cases dx with
    | bool a =>
      obtain rfl := hx.bool
      obtain rfl := hy.bool
      refine op_isnot_bl pins s σ H _ _ v u Q I rx ry ⟨_, _, rfl, rfl, ?_⟩
      have e : decide (a = b) = (a == b) := by cases a <;> cases b <;> rfl
      rw [e]
      exact Give.bl sm g
    | _ => exact g.elim
  | _ => cases dx <;> exact g.elim
theorem anyEq_eq (d : PyData) : ∀ xs : List PyData, anyEq d xs = xs.any fun z => PyData.eqv z d
  | [] => rfl
  | x :: xs => by simp only [anyEq, List.any_cons, anyEq_eq d xs]
theorem room_in {A : Around} {d : PyData} {n : Nat} (sd : SeqAt.shaped d = true) (hu : A.units + 65 < cLine) : A.units + 1 + min n d.depth < cLine := by
  have := SeqAt.depth_of_shaped sd
  have h2 : min n d.depth ≤ d.depth := Nat.min_le_right _ _
  omega
theorem d_in (hu : X.A.units + 65 < cLine) : OpR X (compareOp .In) (rOp X.K fun a b => cB (cmpD .inn a b)) := by
  intro pins s σ H x y v u Q I rx ry h
  obtain ⟨F, dx, dy, sm, hx, hy, g⟩ := h
  have g' : Ok (cB (inD dx dy)) (Give X.K F H Q) := by cases dx <;> exact g
  cases dy with
  | list ys =>
    simp only [inD] at g'
    split at g'
    · rename_i hz
      rw [Bool.and_eq_true] at hz
      obtain ⟨as, r1⟩ := L2.Dp.reads I dx x v (dp_lib _ _ (SeqAt.canLay_of_shaped hz.1) (hx.dp sm)) rx
      obtain ⟨bs, r2⟩ := L2.Dp.reads I _ y u (dp_lib _ _ (SeqAt.canLay_of_shaped hz.2) (hy.dp sm)) ry
      refine SeqAt.in_list_reads r2 r1 (by simpa [PyData.canLay0] using SeqAt.canLay_of_shaped hz.2) (SeqAt.canLay_of_shaped hz.1) (room_in hz.1 hu) ⟨.bl _, H, I, rfl, ?_⟩
      rw [← anyEq_eq]
      exact Give.bl sm g'
    · exact g'.elim
  | tuple ys =>
    simp only [inD] at g'
    split at g'
    · rename_i hz
      rw [Bool.and_eq_true] at hz
      obtain ⟨as, r1⟩ := L2.Dp.reads I dx x v (dp_lib _ _ (SeqAt.canLay_of_shaped hz.1) (hx.dp sm)) rx
      obtain ⟨bs, r2⟩ := L2.Dp.reads I _ y u (dp_lib _ _ (SeqAt.canLay_of_shaped hz.2) (hy.dp sm)) ry
      refine SeqAt.in_tuple_reads r2 r1 (by simpa [PyData.canLay0] using SeqAt.canLay_of_shaped hz.2) (SeqAt.canLay_of_shaped hz.1) (room_in hz.1 hu) ⟨.bl _, H, I, rfl, ?_⟩
      rw [← anyEq_eq]
      exact Give.bl sm g'
    · exact g'.elim
  | _ => exact g'.elim
theorem d_nin (hu : X.A.units + 65 < cLine) : OpR X (compareOp .NotIn) (rOp X.K fun a b => cB (cmpD .nin a b)) := by
  intro pins s σ H x y v u Q I rx ry h
  obtain ⟨F, dx, dy, sm, hx, hy, g⟩ := h
  have g' : Ok (cB ((inD dx dy).bind fun r => .ok (!r))) (Give X.K F H Q) := by cases dx <;> exact g
  cases dy with
  | list ys =>
    simp only [inD] at g'
    split at g'
    · rename_i hz
      rw [Bool.and_eq_true] at hz
      obtain ⟨as, r1⟩ := L2.Dp.reads I dx x v (dp_lib _ _ (SeqAt.canLay_of_shaped hz.1) (hx.dp sm)) rx
      obtain ⟨bs, r2⟩ := L2.Dp.reads I _ y u (dp_lib _ _ (SeqAt.canLay_of_shaped hz.2) (hy.dp sm)) ry
      refine SeqAt.notIn_list_reads r2 r1 (by simpa [PyData.canLay0] using SeqAt.canLay_of_shaped hz.2) (SeqAt.canLay_of_shaped hz.1) (room_in hz.1 hu) ⟨.bl _, H, I, rfl, ?_⟩
      rw [← anyEq_eq]
      exact Give.bl sm g'
    · exact g'.elim
  | tuple ys =>
    simp only [inD] at g'
    split at g'
    · rename_i hz
      rw [Bool.and_eq_true] at hz
      obtain ⟨as, r1⟩ := L2.Dp.reads I dx x v (dp_lib _ _ (SeqAt.canLay_of_shaped hz.1) (hx.dp sm)) rx
      obtain ⟨bs, r2⟩ := L2.Dp.reads I _ y u (dp_lib _ _ (SeqAt.canLay_of_shaped hz.2) (hy.dp sm)) ry
      refine SeqAt.notIn_tuple_reads r2 r1 (by simpa [PyData.canLay0] using SeqAt.canLay_of_shaped hz.2) (SeqAt.canLay_of_shaped hz.1) (room_in hz.1 hu) ⟨.bl _, H, I, rfl, ?_⟩
      rw [← anyEq_eq]
      exact Give.bl sm g'
    · exact g'.elim
  | _ => exact g'.elim
def copOf : Cop → CmpOp
  | .eq => .Eq
  | .ne => .NotEq
  | .lt => .Lt
  | .le => .LtE
  | .gt => .Gt
  | .ge => .GtE
  | .is => .Is
  | .isn => .IsNot
  | .inn => .In
  | .nin => .NotIn
theorem d_cmp (hu : X.A.units + 65 < cLine) (op : Cop) : OpR X (compareOp (copOf op)) (rOp X.K fun a b => cB (cmpD op a b)) := by
  cases op
  · exact d_eq (by omega)
  · exact d_ne (by omega)
  · exact d_lt
  · exact d_le
  · exact d_gt
  · exact d_ge
  · exact d_is
  · exact d_isn
  · exact d_in hu
  · exact d_nin hu
end
end HF

set_option Elab.async false
set_option linter.all false
set_option maxRecDepth 100000
set_option maxHeartbeats 4000000
/-! ### D: built-ins, items, slices -/
namespace HF
open PySem PySem.Spec PyProof.Rows L2

theorem keysD_scr (ns : List Int) : keysD (ns.map fun n => ((.int n, .none) : PyData × PyData)) = ofI ns := by
  induction ns with
  | nil => rfl
  | cons m ms ih => simp only [List.map_cons, keysD, ofI, ih]
theorem Sh.scr {K : PySem.W.Frag} {F H : Hp} {v : V} {kvs : List (PyData × PyData)} (h : Sh K F H v (.dict kvs)) (s : Same F H) : ∃ (a : Addr) (ns : List Int), v = .ref a ∧ SqL K H a (ns.map V.int) ∧ kvs = ns.map fun n => (.int n, .none) := by
  rcases h with h | ⟨ds, a, vs, e1, _⟩
  · cases h with
    | scr h1 h2 => exact ⟨_, _, rfl, s.seq h1, h2⟩
  · cases e1
theorem minI_spec : ∀ (ns : List Int) (n : Int), minI n ns ∈ n :: ns ∧ ∀ y ∈ n :: ns, minI n ns ≤ y
  | [], n => ⟨by simp [minI], by simp [minI]⟩
  | x :: r, n => by
    have ih := minI_spec r (if x < n then x else n)
    simp only [minI]
    refine ⟨?_, fun y hy => ?_⟩
    · rcases List.mem_cons.mp ih.1 with e | e
      · rw [e]
        split <;> simp
      · simp [e]
    · have h1 : minI (if x < n then x else n) r ≤ (if x < n then x else n) := ih.2 _ List.mem_cons_self
      have h2 : (if x < n then x else n) ≤ n ∧ (if x < n then x else n) ≤ x := by split <;> omega
      rcases List.mem_cons.mp hy with e | hy
      · subst e
        omega
      · rcases List.mem_cons.mp hy with e | hy
        · subst e
          omega
        · exact ih.2 y (List.mem_cons_of_mem _ hy)
theorem maxI_spec : ∀ (ns : List Int) (n : Int), maxI n ns ∈ n :: ns ∧ ∀ y ∈ n :: ns, y ≤ maxI n ns
  | [], n => ⟨by simp [maxI], by simp [maxI]⟩
  | x :: r, n => by
    have ih := maxI_spec r (if n < x then x else n)
    simp only [maxI]
    refine ⟨?_, fun y hy => ?_⟩
    · rcases List.mem_cons.mp ih.1 with e | e
      · rw [e]
        split <;> simp
      · simp [e]
    · have h1 : (if n < x then x else n) ≤ maxI (if n < x then x else n) r := ih.2 _ List.mem_cons_self
      have h2 : n ≤ (if n < x then x else n) ∧ x ≤ (if n < x then x else n) := by split <;> omega
      rcases List.mem_cons.mp hy with e | hy
      · subst e
        omega
      · rcases List.mem_cons.mp hy with e | hy
        · subst e
          omega
        · exact ih.2 y (List.mem_cons_of_mem _ hy)
theorem sumI_eq : ∀ ns : List Int, sumI ns = ns.sum
  | [] => rfl
  | x :: r => by simp only [sumI, List.sum_cons, sumI_eq r]

section
variable {X : Cx}
theorem c_len : CallR X (.builtin "len") (rC1 X.K (b1D .len)) := by
  intro pins s σ H xs us Q I r h
  obtain ⟨F, x, d, rfl, sm, hx, g⟩ := h
  cases d with
  | list ds =>
    obtain ⟨a, vs, rfl, h1, h2⟩ := hx.list sm
    refine call_len_seq pins s σ H _ us Q I r ⟨a, vs, rfl, .inl (SqL.of h1), ?_⟩
    rw [h2.len]
    exact Give.int sm g
  | tuple ds =>
    obtain ⟨a, vs, rfl, h0, h1, h2⟩ := hx.tuple sm
    refine call_len_seq pins s σ H _ us Q I r ⟨a, vs, rfl, .inr (SqT.of h1), ?_⟩
    rw [h2.len]
    exact Give.int sm g
  | dict kvs =>
    obtain ⟨a, ns, rfl, h1, h2⟩ := hx.scr sm
    refine call_len_seq pins s σ H _ us Q I r ⟨a, _, rfl, .inl h1, ?_⟩
    subst h2
    have e : (ns.map V.int).length = (ns.map fun n => ((.int n, .none) : PyData × PyData)).length := by simp
    rw [e]
    exact Give.int sm g
  | str z =>
    obtain rfl := hx.str
    simp only [b1D] at g
    split at g
    · rename_i hz
      exact call_len_str pins s σ H _ us Q I r ⟨z, rfl, cap_line hz, Give.int sm g⟩
    · exact g.elim
  | _ => exact g.elim
theorem c_tuple : CallR X (.type "tuple") (rC1 X.K (b1D .tuple)) := by
  intro pins s σ H xs us Q I r h
  obtain ⟨F, x, d, rfl, sm, hx, g⟩ := h
  cases d with
  | list ds =>
    obtain ⟨a, vs, rfl, h1, h2⟩ := hx.list sm
    exact call_tuple_of pins s σ H _ us Q I r ⟨a, vs, rfl, .inl ⟨SqL.of h1, fun p hp => Give.newT sm g hp h2⟩⟩
  | tuple ds =>
    obtain ⟨a, vs, rfl, h0, h1, h2⟩ := hx.tuple sm
    exact call_tuple_of pins s σ H _ us Q I r ⟨a, vs, rfl, .inr ⟨SqT.of h1, Give.old sm g (.tup h0 h2)⟩⟩
  | _ => exact g.elim
theorem c_list : CallR X (.type "list") (rC1 X.K (b1D .list)) := by
  intro pins s σ H xs us Q I r h
  obtain ⟨F, x, d, rfl, sm, hx, g⟩ := h
  cases d with
  | list ds =>
    obtain ⟨a, vs, rfl, h1, h2⟩ := hx.list sm
    exact call_list_of pins s σ H _ us Q I r ⟨a, vs, rfl, .inl (SqL.of h1), fun p hp => Give.newL sm g hp h2⟩
  | tuple ds =>
    obtain ⟨a, vs, rfl, h0, h1, h2⟩ := hx.tuple sm
    exact call_list_of pins s σ H _ us Q I r ⟨a, vs, rfl, .inr (SqT.of h1), fun p hp => Give.newL sm g hp h2⟩
  | _ => exact g.elim
theorem c_abs : CallR X (.builtin "abs") (rC1 X.K (b1D .abs)) := by
  intro pins s σ H xs us Q I r h
  obtain ⟨F, x, d, rfl, sm, hx, g⟩ := h
  cases d with
  | int i =>
    obtain rfl := hx.int
    exact call_abs pins s σ H _ us Q I r ⟨i, rfl, Give.int sm g⟩
  | _ => exact g.elim
theorem c_int : CallR X (.type "int") (rC1 X.K (b1D .int)) := by
  intro pins s σ H xs us Q I r h
  obtain ⟨F, x, d, rfl, sm, hx, g⟩ := h
  cases d with
  | int i =>
    obtain rfl := hx.int
    exact call_int1 pins s σ H _ us Q I r (.inl ⟨i, rfl, Give.int sm g⟩)
  | bool b =>
    obtain rfl := hx.bool
    exact call_int1 pins s σ H _ us Q I r (.inr ⟨b, rfl, Give.int sm g⟩)
  | _ => exact g.elim
theorem c_min (hc : X.calm = true) : CallR X (.builtin "min") (rC1 X.K (b1D .min)) := by
  intro pins s σ H xs us Q I r h
  obtain ⟨F, x, d, rfl, sm, hx, g⟩ := h
  cases d with
  | list ds =>
    obtain ⟨a, vs, rfl, h1, h2⟩ := hx.list sm
    simp only [b1D] at g
    split at g
    · rename_i n ns e
      have ev := h2.ints e
      subst ev
      refine cr_min hc pins s σ H _ us Q I r ⟨a, n :: ns, rfl, SqL.of h1, by simp, fun m hm hle => ?_⟩
      have q := minI_spec ns n
      have e2 : m = minI n ns := Int.le_antisymm (hle _ q.1) (q.2 _ hm)
      rw [e2]
      exact Give.int sm g
    · exact g.elim
  | _ => exact g.elim
theorem c_max (hc : X.calm = true) : CallR X (.builtin "max") (rC1 X.K (b1D .max)) := by
  intro pins s σ H xs us Q I r h
  obtain ⟨F, x, d, rfl, sm, hx, g⟩ := h
  cases d with
  | list ds =>
    obtain ⟨a, vs, rfl, h1, h2⟩ := hx.list sm
    simp only [b1D] at g
    split at g
    · rename_i n ns e
      have ev := h2.ints e
      subst ev
      refine cr_max hc pins s σ H _ us Q I r ⟨a, n :: ns, rfl, SqL.of h1, by simp, fun m hm hle => ?_⟩
      have q := maxI_spec ns n
      have e2 : m = maxI n ns := Int.le_antisymm (q.2 _ hm) (hle _ q.1)
      rw [e2]
      exact Give.int sm g
    · exact g.elim
  | _ => exact g.elim
theorem c_sum (hc : X.calm = true) : CallR X (.builtin "sum") (rC1 X.K (b1D .sum)) := by
  intro pins s σ H xs us Q I r h
  obtain ⟨F, x, d, rfl, sm, hx, g⟩ := h
  cases d with
  | list ds =>
    obtain ⟨a, vs, rfl, h1, h2⟩ := hx.list sm
    simp only [b1D] at g
    split at g
    · rename_i ns e
      have ev := h2.ints e
      subst ev
      refine cr_sum hc pins s σ H _ us Q I r ⟨a, ns, rfl, SqL.of h1, ?_⟩
      rw [← sumI_eq]
      exact Give.int sm g
    · exact g.elim
  | _ => exact g.elim
theorem c_all (hc : X.calm = true) : CallR X (.builtin "all") (rC1 X.K (b1D .all)) := by
  intro pins s σ H xs us Q I r h
  obtain ⟨F, x, d, rfl, sm, hx, g⟩ := h
  cases d with
  | list ds =>
    obtain ⟨a, vs, rfl, h1, h2⟩ := hx.list sm
    simp only [b1D] at g
    split at g
    · rename_i ns e
      have ev := h2.bools e
      subst ev
      exact cr_all hc pins s σ H _ us Q I r ⟨a, ns, rfl, SqL.of h1, Give.bl sm g⟩
    · exact g.elim
  | _ => exact g.elim
theorem c_any (hc : X.calm = true) : CallR X (.builtin "any") (rC1 X.K (b1D .any)) := by
  intro pins s σ H xs us Q I r h
  obtain ⟨F, x, d, rfl, sm, hx, g⟩ := h
  cases d with
  | list ds =>
    obtain ⟨a, vs, rfl, h1, h2⟩ := hx.list sm
    simp only [b1D] at g
    split at g
    · rename_i ns e
      have ev := h2.bools e
      subst ev
      exact cr_any hc pins s σ H _ us Q I r ⟨a, ns, rfl, SqL.of h1, Give.bl sm g⟩
    · exact g.elim
  | _ => exact g.elim

/-! items -/
theorem nthD_eq : ∀ (ds : List PyData) (i : Nat), nthD ds i = ds[i]?
  | [], i => by simp [nthD]
  | d :: ds, 0 => by simp [nthD]
  | d :: ds, i + 1 => by simp only [nthD, List.getElem?_cons_succ]; exact nthD_eq ds i
theorem atD_at {K : PySem.W.Frag} {F : Hp} {vs : List V} {ds : List PyData} {i : Int} {d : PyData} (h : DpAll K F vs ds) (e : atD ds i = .ok d) : ∃ v, atI vs i = some v ∧ Dp K F v d := by
  unfold atD at e
  cases q : ixOf ds.length i with
  | none => rw [q] at e; cases e
  | some j =>
    rw [q] at e
    dsimp only at e
    cases q2 : nthD ds j with
    | none => rw [q2] at e; cases e
    | some d' =>
      rw [q2] at e
      cases e
      rw [nthD_eq] at q2
      obtain ⟨v, h1, h2⟩ := h.getD q2
      refine ⟨v, ?_, h2⟩
      have q3 : ixN vs.length i = some j := by rw [h.len]; exact q
      unfold atI
      rw [q3]
      exact h1
def gV (o : O PyData) : O Res := o.bind fun d => .ok (.v d)
theorem x_ix : IxR X (rOp X.K fun a b => gV (ixD a b)) := by
  intro value slice pins s σ H x y v u Q I rx ry h hs
  obtain ⟨F, dx, dy, sm, hx, hy, g⟩ := h
  cases dy with
  | int i =>
    obtain rfl := hy.int
    cases dx with
    | list ds =>
      obtain ⟨a, vs, rfl, h1, h2⟩ := hx.list sm
      have g' : Ok (gV (atD ds i)) (Give X.K F H Q) := g
      cases e : atD ds i with
      | ok d =>
        rw [e] at g'
        obtain ⟨w, h3, h4⟩ := atD_at h2 e
        exact ix_list value slice pins s σ H _ _ v u Q I rx ry ⟨a, vs, i, w, rfl, rfl, SqL.of h1, h3, Give.old sm g' h4⟩ hs
      | ex c => rw [e] at g'; exact g'.elim
      | no => rw [e] at g'; exact g'.elim
    | tuple ds =>
      obtain ⟨a, vs, rfl, h0, h1, h2⟩ := hx.tuple sm
      have g' : Ok (gV (atD ds i)) (Give X.K F H Q) := g
      cases e : atD ds i with
      | ok d =>
        rw [e] at g'
        obtain ⟨w, h3, h4⟩ := atD_at h2 e
        exact ix_tup value slice pins s σ H _ _ v u Q I rx ry ⟨a, vs, i, w, rfl, rfl, SqT.of h1, h3, Give.old sm g' h4⟩ hs
      | ex c => rw [e] at g'; exact g'.elim
      | no => rw [e] at g'; exact g'.elim
    | dict kvs =>
      obtain ⟨a, ns, rfl, h1, h2⟩ := hx.scr sm
      subst h2
      have g' : Ok (gV (atD (ofI ns) i)) (Give X.K F H Q) := by rw [← keysD_scr]; exact g
      cases e : atD (ofI ns) i with
      | ok d =>
        rw [e] at g'
        obtain ⟨w, h3, h4⟩ := atD_at (K := X.K) (F := F) (DpAll.ofInts ns) e
        exact ix_list value slice pins s σ H _ _ v u Q I rx ry ⟨a, _, i, w, rfl, rfl, h1, h3, Give.old sm g' h4⟩ hs
      | ex c => rw [e] at g'; exact g'.elim
      | no => rw [e] at g'; exact g'.elim
    | str z =>
      obtain rfl := hx.str
      simp only [ixD] at g
      split at g
      · rename_i hz
        split at g
        · rename_i j q
          split at g
          · rename_i c q2
            refine ix_str value slice pins s σ H _ _ v u Q I rx ry ⟨z, i, c, rfl, rfl, cap_line hz, ?_, Give.str sm g⟩ hs
            have q3 : ixN z.cps.toList.length i = some j := q
            unfold atI
            rw [q3]
            exact q2
          · exact g.elim
        · exact g.elim
      · exact g.elim
    | _ => exact g.elim
  | _ => cases dx <;> exact g.elim

/-! slices -/
def optI : PyData → O (Option Int)
  | .none => .ok none
  | .int i => .ok (some i)
  | _ => .no
theorem bnd_sIx {n d : Nat} {p : PyData} {o : Option Int} (h : optI p = .ok o) : bndD n d p = .ok (HT.sIx n d o) := by
  cases p <;> cases h <;> rfl
theorem bnd_no {n d : Nat} {p : PyData} (h : ∀ o, optI p ≠ .ok o) : bndD n d p = .no := by
  cases p <;> first | rfl | exact absurd rfl (h _)
def rSl (K : PySem.W.Frag) : V → Option Int → Option Int → Hp → VK → Prop := fun x lo hi H Q => ∃ F dx dl dh, Same F H ∧ Sh K F H x dx ∧ optI dl = .ok lo ∧ optI dh = .ok hi ∧ Ok (slcD dx dl dh) (Give K F H Q)
theorem x_slc : SlR X (rSl X.K) := by
  intro pins s σ H x v vl vu lo hi sl Q I rx hs pl pu h
  obtain ⟨F, dx, dl, dh, sm, hx, e1, e2, g⟩ := h
  cases dx with
  | list ds =>
    obtain ⟨a, vs, rfl, h1, h2⟩ := hx.list sm
    simp only [slcD, bnd_sIx e1, bnd_sIx e2, O.ok_bind] at g
    refine sl_list pins s σ H _ v vl vu lo hi sl Q I rx hs pl pu ⟨a, vs, rfl, SqL.of h1, fun p hp => ?_⟩
    refine Give.newL sm g hp ?_
    unfold cutV cutD
    rw [h2.len]
    exact (h2.drop _).take _
  | tuple ds =>
    obtain ⟨a, vs, rfl, h0, h1, h2⟩ := hx.tuple sm
    simp only [slcD, bnd_sIx e1, bnd_sIx e2, O.ok_bind] at g
    refine sl_tupA pins s σ H _ v vl vu lo hi sl Q I rx hs pl pu ⟨a, vs, rfl, SqT.of h1, fun w => ?_, fun _ p hp => ?_⟩
    · rw [h2.len] at w
      have e : cutD ds (HT.sIx ds.length 0 lo) (HT.sIx ds.length ds.length hi) = ds := by
        unfold cutD
        rw [w.1, w.2]
        simp
      rw [e] at g
      exact Give.old sm g (.tup h0 h2)
    · refine Give.newT sm g hp ?_
      unfold cutV cutD
      rw [h2.len]
      exact (h2.drop _).take _
  | _ => exact g.elim

/-! isinstance -/
def tyN : Ty → String
  | .int => "int"
  | .bool => "bool"
  | .tuple => "tuple"
  | .str => "str"
  | .list => "list"
def tyD : PyData → String
  | .none => "NoneType"
  | .bool _ => "bool"
  | .int _ => "int"
  | .str _ => "str"
  | .list _ => "list"
  | .tuple _ => "tuple"
  | .dict _ => "dict"
def kitT (t : Ty) (s : String) : Bool := (tyN t == s) || (match t with | .int => s == "bool" | _ => false)
theorem kit_all (t : Ty) : ∀ s ∈ ["NoneType", "bool", "int", "str", "list", "tuple"], kitB s (tyN t) = some (kitT t s) := by
  cases t <;> decide +kernel
theorem kit_d (t : Ty) (d : PyData) (b : Bool) (h : isiD t d = .ok b) : kitB (tyD d) (tyN t) = some b := by
  have k := kit_all t
  cases d with
  | dict _ => cases t <;> cases h
  | none => rw [show tyD .none = "NoneType" from rfl, k _ (by simp)]; cases t <;> cases h <;> rfl
  | bool _ => rw [show tyD (.bool _) = "bool" from rfl, k _ (by simp)]; cases t <;> cases h <;> rfl
  | int _ => rw [show tyD (.int _) = "int" from rfl, k _ (by simp)]; cases t <;> cases h <;> rfl
  | str _ => rw [show tyD (.str _) = "str" from rfl, k _ (by simp)]; cases t <;> cases h <;> rfl
  | list _ => rw [show tyD (.list _) = "list" from rfl, k _ (by simp)]; cases t <;> cases h <;> rfl
  | tuple _ => rw [show tyD (.tuple _) = "tuple" from rfl, k _ (by simp)]; cases t <;> cases h <;> rfl
theorem ty_of {K : PySem.W.Frag} {F H : Hp} {v : V} {d : PyData} (h : Sh K F H v d) (s : Same F H) (hd : ∀ kvs, d ≠ .dict kvs) : TyX K H v (.type (tyD d)) := by
  cases d with
  | dict kvs => exact absurd rfl (hd kvs)
  | none => obtain rfl := h.none; exact .base .non
  | bool b => obtain rfl := h.bool; exact .base (.bl b)
  | int b => obtain rfl := h.int; exact .base (.int b)
  | str b => obtain rfl := h.str; exact .base (.str b)
  | list ds => obtain ⟨a, vs, rfl, h1, h2⟩ := h.list s; exact .base (.lst h1)
  | tuple ds => obtain ⟨a, vs, rfl, h0, h1, h2⟩ := h.tuple s; exact .base (.tup h1)
def rIsiD (K : PySem.W.Frag) (t : Ty) : List V → Hp → VK → Prop := fun xs H Q => ∃ F x d, xs = [x, .ty (tyN t)] ∧ Same F H ∧ Sh K F H x d ∧ Ok (cB (isiD t d)) (Give K F H Q)
theorem c_isi (t : Ty) : CallR X (.builtin "isinstance") (rIsiD X.K t) := by
  intro pins s σ H xs us Q I r h
  obtain ⟨F, x, d, rfl, sm, hx, g⟩ := h
  cases e : isiD t d with
  | ok b =>
    rw [e] at g
    refine call_isi pins s σ H _ us Q I r ⟨x, _, _, _, b, rfl, .ty _, ty_of hx sm (fun kvs z => ?_), kit_ty (kit_d t d b e), Give.bl sm g⟩
    subst z
    cases t <;> cases e
  | ex c => rw [e] at g; exact g.elim
  | no => rw [e] at g; exact g.elim
end
end HF

set_option Elab.async false
set_option linter.all false
set_option maxRecDepth 100000
set_option maxHeartbeats 8000000
/-! ### E: sorted, sets -/
namespace HF
open PySem PySem.Spec PyProof.Rows L2

/-! insertion sort -/
theorem ins_perm {α : Type} (lt : α → α → Bool) (x : α) : ∀ l : List α, (ins lt x l).Perm (x :: l)
  | [] => .refl _
  | y :: r => by
    simp only [ins]
    split
    · exact ((ins_perm lt x r).cons y).trans (List.Perm.swap x y r)
    · exact .refl _
theorem isort_perm {α : Type} (lt : α → α → Bool) : ∀ l : List α, (isort lt l).Perm l
  | [] => .refl _
  | x :: r => (ins_perm lt x _).trans ((isort_perm lt r).cons x)
theorem ins_sorted {α : Type} {lt : α → α → Bool} (as : ∀ x y, lt x y = true → lt y x = false) (tr : ∀ x y z, lt y x = false → lt z y = false → lt z x = false) (x : α) : ∀ l : List α, l.Pairwise (fun a b => lt b a = false) → (ins lt x l).Pairwise (fun a b => lt b a = false)
  | [], _ => by simp [ins]
  | y :: r, h => by
    simp only [ins]
    obtain ⟨h1, h2⟩ := List.pairwise_cons.mp h
    split
    · rename_i hy
      refine List.pairwise_cons.mpr ⟨fun z hz => ?_, ins_sorted as tr x r h2⟩
      rcases List.mem_cons.mp ((ins_perm lt x r).mem_iff.mp hz) with e | e
      · rw [e]; exact as _ _ hy
      · exact h1 z e
    · rename_i hy
      have hy' : lt y x = false := by cases q : lt y x with
        | true => exact absurd q hy
        | false => rfl
      refine List.pairwise_cons.mpr ⟨fun z hz => ?_, h⟩
      rcases List.mem_cons.mp hz with e | e
      · rw [e]; exact hy'
      · exact tr _ _ _ hy' (h1 z e)
theorem isort_sorted {α : Type} {lt : α → α → Bool} (as : ∀ x y, lt x y = true → lt y x = false) (tr : ∀ x y z, lt y x = false → lt z y = false → lt z x = false) : ∀ l : List α, (isort lt l).Pairwise (fun a b => lt b a = false)
  | [] => .nil
  | x :: r => ins_sorted as tr x _ (isort_sorted as tr r)
/-- two sorted lists of the same things are one, where what is not apart is the same -/
theorem sorted_same {α : Type} {R : α → α → Prop} (anti : ∀ x y, R x y → R y x → x = y) : ∀ {l m : List α}, l.Pairwise R → m.Pairwise R → l.Perm m → l = m
  | [], m, _, _, p => (List.perm_nil.mp p.symm).symm
  | x :: l, [], _, _, p => by simpa using p.length_eq
  | x :: l, y :: m, h, h', p => by
    obtain ⟨h1, h2⟩ := List.pairwise_cons.mp h
    obtain ⟨h1', h2'⟩ := List.pairwise_cons.mp h'
    have e : x = y := by
      rcases List.mem_cons.mp (p.mem_iff.mp List.mem_cons_self) with e | e
      · exact e
      · rcases List.mem_cons.mp (p.mem_iff.mpr List.mem_cons_self) with e' | e'
        · exact e'.symm
        · exact anti _ _ (h1 y e') (h1' x e)
    subst e
    rw [sorted_same anti h2 h2' (List.Perm.cons_inv p)]
theorem ltI_as (x y : Int) (h : ltI x y = true) : ltI y x = false := by
  unfold ltI at *
  simp at *
  omega
theorem ltI_tr (x y z : Int) (h : ltI y x = false) (h' : ltI z y = false) : ltI z x = false := by
  unfold ltI at *
  simp at *
  omega
theorem isortI_eq {ns ms : List Int} (p : ms.Perm ns) (h : ms.Pairwise (· ≤ ·)) : ms = isort ltI ns := by
  refine sorted_same (R := fun a b => a ≤ b) (fun x y h1 h2 => Int.le_antisymm h1 h2) h ?_ (p.trans (isort_perm ltI ns).symm)
  refine (isort_sorted ltI_as ltI_tr ns).imp fun {a b} q => ?_
  unfold ltI at q
  simp at q
  exact q
theorem lexP_eq (p q : Int × Int) : lexP p q = SrtO.lexB p q := rfl
theorem lexP_as (x y : Int × Int) (h : lexP x y = true) : lexP y x = false := by
  rw [lexP_eq] at *
  have a := SrtO.lexB_iff.mp h
  refine SrtO.lexB_no.mpr ?_
  omega
theorem lexP_tr (x y z : Int × Int) (h1 : lexP y x = false) (h2 : lexP z y = false) : lexP z x = false := by
  rw [lexP_eq] at *
  have a := SrtO.lexB_no.mp h1
  have b := SrtO.lexB_no.mp h2
  refine SrtO.lexB_no.mpr ?_
  omega
theorem lexP_anti (x y : Int × Int) (h1 : lexP y x = false) (h2 : lexP x y = false) : x = y := by
  rw [lexP_eq] at *
  have a := SrtO.lexB_no.mp h1
  have b := SrtO.lexB_no.mp h2
  exact Prod.ext (by omega) (by omega)
theorem isortP_eq {ns ms : List (Int × Int)} (p : ms.Perm ns) (h : ms.Pairwise fun a b => lexP b a = false) : ms = isort lexP ns :=
  sorted_same (R := fun a b => lexP b a = false) (fun x y h1 h2 => lexP_anti x y h1 h2) h (isort_sorted lexP_as lexP_tr ns) (p.trans (isort_perm lexP ns).symm)

/-! sorted of a list or a tuple -/
section
variable {prog : Program} {w : World} {A : Around} {E : Value → Shared → Prop} {s : Shared}
theorem collect_tup {l : Addr} {vs : List Value} {Q : List Value → Shared → Prop} (hl : IsTup s.heap l vs.toArray) (hsz : vs.length ≤ sizeLine)
    (h : Q vs { s with heap := (s.heap.push (seqObj "list" #[] 0)).update s.heap.objs.size (Obj.mapSeq (· ++ vs.toArray)) }) :
    wpAny (model prog w) A (collect (.ref l)) Q E s := by
  obtain ⟨o, ho, hc, n, hd⟩ := hl
  have new : (s.heap.push (seqObj "list" #[] 0)).get? s.heap.objs.size = some (seqObj "list" #[] 0) := Heap.get?_push_size _ rfl
  have old : (s.heap.push (seqObj "list" #[] 0)).get? l = some o := Heap.get?_push_of_some _ ho
  unfold collect
  refine wpAny_bind (wpAny_runValue (codeAny_builtin entry_proto_collect' ?_))
  refine wpAny_bind (wpAny_newList (wpAny_pure ⟨Code.quiet_builtin _ (by decide +kernel), codeAny_builtin entry_list_iadd' ?_⟩) (Nat.zero_le _))
  show wpAny _ _ (Builtin.List.listExtendWith (.ref s.heap.objs.size) (.ref l) (.ref s.heap.objs.size)) _ _ { s with heap := s.heap.push (seqObj "list" #[] 0) }
  unfold Builtin.List.listExtendWith
  refine wpAny_bind (wpAny_typeOf (T := "tuple") ⟨o, old, hc⟩ ?_)
  rw [if_pos (by rw [show (Value.type "tuple" == Value.type "tuple") = true from rfl]; simp)]
  refine wpAny_bind (listItems_at old hd (wpAny_bind (listItems_at (xs := #[]) (n := 0) new rfl ?_)))
  rw [if_neg (by simp)]
  refine wpAny_bind (listUpdate_at (xs := #[]) (n := 0) new rfl ?_ (Nat.zero_le _) (by
    show (#[] ++ vs.toArray).size ≤ sizeLine + 1
    simp only [Array.size_append, List.size_toArray, List.length_nil]
    omega))
  refine wpAny_pure (wpAny_bind (wpAny_load (get?_update_seq new _) ?_))
  have e : ((#[] : Array Value) ++ vs.toArray).toList = vs := by simp
  show wpAny _ _ (pure ((#[] : Array Value) ++ vs.toArray).toList) Q E _
  rw [e]
  exact wpAny_pure h
/-- sorted of what collects to vs -/
theorem sorted_of {l : Addr} {vs : List Value} {ltv : Value → Value → Bool} {Q : Value → Shared → Prop} (o : SrtO.Swo ltv) (hz : vs.length ≤ sizeLine)
    (hcol : s.heap.IsList l vs.toArray ∨ IsTup s.heap l vs.toArray)
    (hS : 2 ≤ vs.length → ∀ (h1 : Heap) (a : Addr), h1.get? a = some (seqObj "list" vs.toArray 0) → (∀ b o, s.heap.get? b = some o → b ≠ a ∧ h1.get? b = some o) → SrtO.SortableO prog w A.in1.in1 { s with heap := h1 } a vs ltv)
    (h : ∀ out : List Value, SrtO.Srtd ltv out → SrtO.Stb ltv out vs → Q (.ref (s.heap.objs.size + 1)) { s with heap := sortedAll s.heap vs out.toArray }) :
    wpAny (model prog w) A (call (.builtin "sorted") [.ref l]) Q E s := by
  rcases hcol with hl | ht
  · exact SrtO.sorted_ord o hl hz hS h
  refine Calls.call_function_entry kind_sorted plain_sorted entry_sorted (args_sorted1 _) ?_
  unfold Builtin.«sorted»
  refine wpAny_bind (m := checkCount "sorted" 1 1 _) (wpAny_pure (wpAny_bind (collect_tup ht hz (wpAny_bind (wpAny_newList ?_ hz)))))
  generalize hg : (s.heap.push (seqObj "list" #[] 0)).update s.heap.objs.size (Obj.mapSeq (· ++ vs.toArray)) = g
  have gz : g.objs.size = s.heap.objs.size + 1 := by rw [← hg, Heap.size_update, size_push']
  have gk : ∀ b o, s.heap.get? b = some o → g.get? b = some o := fun b o q => by
    rw [← hg, Heap.get?_update_ne _ _ _ _ (Nat.ne_of_lt (Heap.lt_size q))]
    exact Heap.get?_push_of_some _ q
  have top : (g.push (seqObj "list" vs.toArray 0)).get? (s.heap.objs.size + 1) = some (seqObj "list" vs.toArray 0) := by
    rw [← gz]
    exact Heap.get?_push_size _ rfl
  show wpAny _ _ _ _ _ { s with heap := g.push (seqObj "list" vs.toArray 0) }
  dsimp only
  rw [gz]
  refine wpAny_bind (wpAny_holding (wpAny_call_entry slot_list_sort ⟨_, top, rfl⟩ entry_list_sort (SrtO.list_sort_ord o top hz (fun h2 => hS h2 _ _ top fun b u q => ⟨Nat.ne_of_lt (Nat.lt_succ_of_lt (Heap.lt_size q)), Heap.get?_push_of_some _ (gk b u q)⟩) fun out q1 q2 => ⟨_, rfl, wpAny_pure ⟨_, rfl, ?_⟩⟩) (args_list_sort _)))
  have r := h out q1 q2
  unfold sortedAll at r
  rw [hg] at r
  exact r
end
theorem DpAll.mem {K : PySem.W.Frag} {F : Hp} : ∀ {vs : List V} {ds : List PyData} {v : V}, DpAll K F vs ds → v ∈ vs → ∃ d ∈ ds, Dp K F v d
  | _, _, v, .cons h1 h2, hm => by
    rcases List.mem_cons.mp hm with e | hm
    · subst e
      exact ⟨_, List.mem_cons_self, h1⟩
    · obtain ⟨d, q1, q2⟩ := DpAll.mem h2 hm
      exact ⟨d, List.mem_cons_of_mem _ q1, q2⟩
/-- the pair that a value is, in a heap -/
def prAt (F : Hp) : V → Int × Int
  | .ref t => (match F t with
    | some (.tup [.int i, .int j]) => (i, j)
    | _ => (0, 0))
  | _ => (0, 0)
theorem dp_pair {K : PySem.W.Frag} {F : Hp} {v : V} {i j : Int} (h : Dp K F v (.tuple [.int i, .int j])) : ∃ t, v = .ref t ∧ F t = some (.tup [.int i, .int j]) := by
  cases h with
  | tup h1 h2 =>
    cases h2 with
    | cons a b =>
      cases a
      cases b with
      | cons c d =>
        cases c
        cases d
        exact ⟨_, rfl, h1⟩
theorem prsD_cons {d : PyData} {ds : List PyData} {ps : List (Int × Int)} (h : prsD (d :: ds) = some ps) : ∃ i j qs, d = .tuple [.int i, .int j] ∧ prsD ds = some qs ∧ ps = (i, j) :: qs := by
  cases d with
  | tuple xs =>
    match xs, h with
    | [.int i, .int j], h =>
      simp only [prsD] at h
      cases q : prsD ds with
      | none => rw [q] at h; cases h
      | some qs =>
        rw [q] at h
        cases h
        exact ⟨i, j, qs, rfl, rfl, rfl⟩
  | _ => cases h
theorem DpAll.pairs {K : PySem.W.Frag} {F : Hp} : ∀ {vs : List V} {ds : List PyData} {ps : List (Int × Int)}, DpAll K F vs ds → prsD ds = some ps → vs.map (prAt F) = ps ∧ ds = ofP ps ∧ ∀ v ∈ vs, ∃ t, v = .ref t ∧ F t = some (.tup [.int (prAt F v).1, .int (prAt F v).2])
  | _, _, ps, .nil, e => by
    simp only [prsD, Option.some.injEq] at e
    subst e
    exact ⟨rfl, rfl, fun v hv => by simp at hv⟩
  | v :: vs, d :: ds, ps, .cons h1 h2, e => by
    obtain ⟨i, j, qs, rfl, q, rfl⟩ := prsD_cons e
    obtain ⟨i1, i2, i3⟩ := DpAll.pairs h2 q
    obtain ⟨t, rfl, ht⟩ := dp_pair h1
    have ep : prAt F (.ref t) = (i, j) := by simp only [prAt, ht]
    refine ⟨by rw [List.map_cons, i1, ep], by rw [i2] <;> rfl, fun u hu => ?_⟩
    rcases List.mem_cons.mp hu with e | hu
    · subst e
      rw [ep]
      exact ⟨t, rfl, ht⟩
    · exact i3 u hu
theorem dpAll_pairs {K : PySem.W.Frag} {F : Hp} : ∀ (vs : List V), (∀ v ∈ vs, ∃ t, v = .ref t ∧ F t = some (.tup [.int (prAt F v).1, .int (prAt F v).2])) → DpAll K F vs (ofP (vs.map (prAt F)))
  | [], _ => .nil
  | v :: vs, h => by
    obtain ⟨t, e, ht⟩ := h v List.mem_cons_self
    refine .cons ?_ (dpAll_pairs vs fun u hu => h u (List.mem_cons_of_mem _ hu))
    rw [e] at ht ⊢
    exact .tup ht (.cons (.int _) (.cons (.int _) .nil))
section
variable {X : Cx}
/-- the two ways a sequence stands -/
theorem seq_of {K : PySem.W.Frag} {F H : Hp} {v : V} {d : PyData} {ds : List PyData} (h : Sh K F H v d) (s : Same F H) (e : items d = .ok ds) : ∃ a vs, v = .ref a ∧ (H a = some (.lst vs) ∨ H a = some (.tup vs)) ∧ DpAll K F vs ds := by
  cases d with
  | list _ =>
    cases e
    obtain ⟨a, vs, e, h1, h2⟩ := h.list s
    exact ⟨a, vs, e, .inl h1, h2⟩
  | tuple _ =>
    cases e
    obtain ⟨a, vs, e, _, h1, h2⟩ := h.tuple s
    exact ⟨a, vs, e, .inr h1, h2⟩
  | _ => cases e
theorem seq_vals {pins : List (Addr × Obj)} {σ : L2.St} {H : Hp} {s : Shared} {a : Addr} {vs : List V} (I : Inv X pins σ H s) (h : H a = some (.lst vs) ∨ H a = some (.tup vs)) : ∃ its : List Value, Vals vs its ∧ (s.heap.IsList a its.toArray ∨ IsTup s.heap a its.toArray) ∧ vs.length ≤ sizeLine := by
  rcases h with h | h
  · obtain ⟨its, r, p, z⟩ := I.list (SqL.of h)
    exact ⟨its, r, .inl p.isList, z⟩
  · obtain ⟨its, r, p, z⟩ := I.tuple (SqT.of h)
    exact ⟨its, r, .inr p, z⟩
theorem c_sorted : CallR X (.builtin "sorted") (rC1 X.K (b1D .sorted)) := by
  intro pins s σ H xs us Q I r h
  obtain ⟨F, x, d, rfl, sm, hx, g⟩ := h
  have g' : Ok ((items d).bind fun xs => (sortD xs).bind fun ys => .ok (.l ys)) (Give X.K F H Q) := by cases d <;> exact g
  cases e : items d with
  | ex c => rw [e] at g'; exact g'.elim
  | no => rw [e] at g'; exact g'.elim
  | ok ds =>
    rw [e, O.ok_bind] at g'
    obtain ⟨a, vs, rfl, hs, hd⟩ := seq_of hx sm e
    obtain ⟨its, rv, hi, hz⟩ := seq_vals I hs
    obtain ⟨u, rfl, ru⟩ := vals1 r
    obtain rfl : u = Value.ref a := ru
    have hz' : its.length ≤ sizeLine := by rw [← rv.length]; exact hz
    unfold sortD at g'
    split at g'
    · rename_i ns q
      have ev := hd.ints q
      subst ev
      have hI : IntsAre its ns := rv.ints
      refine sorted_of SrtO.swo_int hz' hi (fun h2 h1 a' _ _ => SrtO.ints_sortable hI h2) fun out h1 h2 => ?_
      obtain ⟨k1, k2, k3⟩ := SrtO.ints_out hI h1 h2
      obtain ⟨ep, he⟩ := sortedAll_at s.heap its out.toArray
      have eq := isortI_eq k2 k3
      refine ⟨.ref _, upd H (s.heap.objs.size + 1) (.lst ((out.map SrtO.iv).map V.int)), I.laid (t' := s.toks) (fun _ _ => sortedAll_old) (Nat.le_succ _) ⟨?_, out, ep, vals_of_ints k1, he⟩, rfl, ?_⟩
      · rw [List.length_map, k2.length_eq]
        rw [List.length_map] at hz
        exact hz
      · have gl : Give X.K F H Q (.l (ofI (isort ltI ns))) := g'
        rw [← eq] at gl
        exact Give.newL sm gl (I.hok.fresh (Nat.le_succ _)) (DpAll.ofInts _)
    · split at g'
      · rename_i ps q
        obtain ⟨p1, p2, p3⟩ := hd.pairs q
        obtain ⟨b1, b2⟩ := refs_back rv fun v hv => (p3 v hv).imp fun t z => z.1
        have isp : ∀ {g : Heap}, (∀ b o, s.heap.get? b = some o → g.get? b = some o) → ∀ v ∈ its, Srt.IsPair g v (prAt F (backV v)).1 (prAt F (backV v)).2 := fun {g} kk v hv => by
          obtain ⟨t, rfl⟩ := b2 v hv
          have hm : V.ref t ∈ vs := by rw [b1]; exact List.mem_map.mpr ⟨_, hv, rfl⟩
          obtain ⟨t', e', ht⟩ := p3 _ hm
          cases e'
          obtain ⟨_, its2, r2, o, ho, hc, n, hd'⟩ := I.hok _ _ (sm _ _ ht)
          obtain ⟨u1, u2, rfl, ri, rj⟩ := vals2 r2
          obtain ⟨t1, rfl⟩ := ri
          obtain ⟨t2, rfl⟩ := rj
          exact ⟨t, o, t1, t2, n, rfl, kk _ _ ho, hc, hd'⟩
        refine sorted_of (SrtO.swo_lex fun v => prAt F (backV v)) hz' hi (fun h2 h1 a' ha kk => ?_) fun out h1 h2 => ?_
        · refine SrtO.pairs_sortableO (s := { s with heap := h1 }) (by omega) (isp fun b o z => (kk b o z).2) fun o z => ?_
          have z' : some o = some (seqObj "list" its.toArray 0) := z.symm.trans ha
          cases z'
          exact fun c => absurd (Value.type.inj c) (by decide)
        · have h3 : ∀ u ∈ out, ∃ a, u = Value.ref a := fun u hu => b2 u (h2.perm.mem_iff.mp hu)
          obtain ⟨ep, he⟩ := sortedAll_at s.heap its out.toArray
          have pm : (out.map backV).Perm vs := by rw [b1]; exact h2.perm.map backV
          have eq : (out.map backV).map (prAt F) = isort lexP ps := by
            rw [← p1]
            refine isortP_eq (pm.map _) ?_
            rw [List.map_map]
            exact List.pairwise_map.mpr h1
          refine ⟨.ref _, upd H (s.heap.objs.size + 1) (.lst (out.map backV)), I.laid (t' := s.toks) (fun _ _ => sortedAll_old) (Nat.le_succ _) ⟨?_, out, ep, vals_back h3, he⟩, rfl, ?_⟩
          · rw [pm.length_eq]
            exact hz
          · have gl : Give X.K F H Q (.l (ofP (isort lexP ps))) := g'
            rw [← eq] at gl
            exact Give.newL sm gl (I.hok.fresh (Nat.le_succ _)) (dpAll_pairs _ fun v hv => p3 v (pm.mem_iff.mp hv))
      · exact g'.elim
end
end HF

set_option Elab.async false
set_option linter.all false
set_option maxRecDepth 100000
set_option maxHeartbeats 4000000

set_option Elab.async false
set_option linter.all false
set_option maxRecDepth 100000
set_option maxHeartbeats 8000000
/-! ### F: sets of what a list or a tuple holds -/
namespace HF
open PySem PySem.Spec PyProof.Rows L2

abbrev freshSet (w : World) : Obj := { cls := .type "set", dict := none, data := .set #[] 0 (.fresh 0 0 (!w.params.followText "set-order")) }
section
variable {P : Program} {w : World} {A : Around} {E : Value → Shared → Prop} {s : Shared}
/-- what the loop of set.update is to do over any walk of n items -/
def LoopOk (P : Program) (w : World) (A : Around) (s : Shared) (items : Array Value) (Post : Heap → Prop) : Prop :=
  ∀ (I : Addr) (fp wr : List Addr) (G : Array GenState → Array GenState → Prop) (St : Nat → Shared → Prop) (s2 : Shared) (R : Result → Shared → Prop),
    WalksS P w A.in1 I fp wr G items.size (fun i v => items[i]? = some v) St → s.heap.objs.size ∉ fp → (∀ b ∈ wr, s.heap.get? b = none) → St 0 s2 → (∀ b o, s.heap.get? b = some o → s2.heap.get? b = some o) →
    s2.heap.get? s.heap.objs.size = some (freshSet w) →
    (∀ s', Moved (s.heap.objs.size :: wr) G s2 s' → Post s'.heap → R (.ok (.ret .none)) s') → codeAny (model P w) A (.builtin "set.update.loop" ⟨[.ref s.heap.objs.size, .ref I], []⟩) R s2
theorem call_set_any {l : Addr} {items : Array Value} {Post : Heap → Prop} {Q : Value → Shared → Prop} (hh : A.handled = none) (hl : s.heap.IsList l items ∨ s.heap.IsTuple l items) (loop : LoopOk P w A.in1.in1 s items Post)
    (h : ∀ (h' : Heap) (tk : Nat), Post h' → (∀ b o, s.heap.get? b = some o → h'.get? b = some o) → Q (.ref s.heap.objs.size) { s with heap := h', toks := tk }) :
    wpAny (model P w) A (call (.type "set") [.ref l]) Q E s := by
  obtain ⟨c, tl, hmro⟩ := F.called_set.mro
  have hmade := F.called_set.made
  have hsub := F.called_set.sub
  refine wpAny_call (codeAny_of_tree ?_)
  show wpAny _ _ (callAny (.type "set") _) _ _ _
  refine wpAny_pure ⟨Code.quiet_builtin _ (by decide +kernel), codeAny_builtin F.entry_type_call ?_⟩
  rw [Around.under_plain (weight_type_call_type "set" [.ref l] []) rfl]
  have h1 := F.called_set.notType
  have h2 := F.called_set.canCreate
  have hct := F.typeCall_set_1 (.ref l)
  repeat (any_goals (first | assumption | wp_step))
  refine codeAny_mono (code_set_led1 (.ref l) (E := E) (Q₁ := fun obj s₁ => obj = .ref s.heap.objs.size ∧ s₁ = { s with heap := s.heap.push (freshSet w) }) ⟨rfl, rfl⟩) fun r s₁ hr => ?_
  cases r with
  | error e => exact hr
  | ok fl =>
    cases fl with
    | ret obj =>
      obtain ⟨rfl, rfl⟩ := hr
      have hS : (s.heap.push (freshSet w)).get? s.heap.objs.size = some (freshSet w) := Heap.get?_push_size _ rfl
      have hT : Shared.TypeIs { s with heap := s.heap.push (freshSet w) } (.ref s.heap.objs.size) "set" := ⟨_, hS, rfl⟩
      have hli := F.called_set.init.lookup
      have hbi := F.called_set.init.bind (.ref s.heap.objs.size)
      repeat (any_goals (first | assumption | wp_step))
      refine codeAny_mono (codeAny_call_builtin (R := wants (fun r s₂ => r = .none ∧ ∃ h' tk, s₂ = { s with heap := h', toks := tk } ∧ Post h' ∧ ∀ b o, s.heap.get? b = some o → h'.get? b = some o) E) F.called_set.init.plain F.entry_set_init (check_set_init_1 hT ?_)) fun r₂ s₂ hr₂ => ?_
      · have hlS : l < s.heap.objs.size := by
          rcases hl with ⟨o, ho, _⟩ | ⟨o, ho, _⟩
          · exact Heap.lt_size ho
          · exact Heap.lt_size ho
        have hz1 : (s.heap.push (freshSet w)).objs.size = s.heap.objs.size + 1 := Heap.size_push ..
        have hneI : l ≠ (s.heap.push (freshSet w)).objs.size := by rw [hz1]; exact Nat.ne_of_lt (Nat.lt_succ_of_lt hlS)
        have hSf : s.heap.objs.size ∉ [(s.heap.push (freshSet w)).objs.size, l] := by
          rw [hz1]
          simp only [List.mem_cons, List.not_mem_nil, or_false, not_or]
          exact ⟨Nat.ne_of_lt (Nat.lt_succ_self _), Nat.ne_of_gt hlS⟩
        have hwr : ∀ b ∈ [(s.heap.push (freshSet w)).objs.size], s.heap.get? b = none := fun b hb => by
          rw [List.mem_singleton.mp hb, hz1]
          exact Heap.get?_none_of_le (Nat.le_succ _)
        have hh3 : A.in1.in1.in1.handled = none := by simp [hh]
        have fin : ∀ {G : Array GenState → Array GenState → Prop} {s2 s' : Shared}, Moved (s.heap.objs.size :: [(s.heap.push (freshSet w)).objs.size]) G s2 s' → Post s'.heap → s2.os = s.os → s2.drawn = s.drawn → (G s2.gens s'.gens → s'.gens = s.gens) → (∀ b o, s.heap.get? b = some o → s2.heap.get? b = some o) →
            ∃ h' tk, s' = { s with heap := h', toks := tk } ∧ Post h' ∧ ∀ b o, s.heap.get? b = some o → h'.get? b = some o := fun {G s2 s'} hm hp e1 e2 e3 k2 => by
          have eg := e3 hm.gens
          have ed : s'.drawn = s.drawn := hm.drawn.trans e2
          have eo : s'.os = s.os := hm.os.trans e1
          obtain ⟨h', g2, d', tk', os'⟩ := s'
          dsimp only at eg ed eo
          subst eg ed eo
          refine ⟨h', tk', rfl, hp, fun b o q => hm.heap b o ?_ (k2 b o q)⟩
          have hb := Heap.lt_size q
          rw [hz1]
          simp only [List.mem_cons, List.not_mem_nil, or_false, not_or]
          exact ⟨Nat.ne_of_lt hb, Nat.ne_of_lt (Nat.lt_succ_of_lt hb)⟩
        rcases hl with hl | hl
        · obtain ⟨ol, hol, hcl, nl, hdl⟩ := hl
          obtain ⟨ocls, odict, odata, oslots⟩ := ol
          simp only at hcl hdl
          subst hcl hdl
          have hol' : (s.heap.push (freshSet w)).get? l = some { cls := .type "list", dict := odict, data := .seq items nl, slots := oslots } := Heap.get?_push_of_some _ hol
          have hsls := F.sub_list_set
          have hslf := F.sub_list_frozenset
          have hne : (Value.type "list" == Value.type "dict") = false := by decide
          have hl1 : (s.heap.push (freshSet w)).IsList l items := ⟨_, hol', rfl, nl, rfl⟩
          unfold Builtin.«set.__init__» noKeywords Builtin.Frozenset.updateFrom
          generalize hPI : pyIter = PI
          wp_walk
          subst hPI
          refine wpAny_pyIter_list hl1 (wpAny_bind (wpAny_runValue ?_))
          refine loop _ _ _ _ _ _ _ ((Walks.list hh3 _ l hneI items).toS) hSf hwr ⟨⟨_, Heap.get?_push_size _ rfl, rfl, rfl⟩, hl1.push _⟩ (fun b o q => Heap.get?_push_of_some _ (Heap.get?_push_of_some _ q)) (Heap.get?_push_of_some _ hS) fun s' hm hp => ?_
          obtain ⟨h', tk, rfl, p1, p2⟩ := fin hm hp rfl rfl (fun z => z) (fun b o q => Heap.get?_push_of_some _ (Heap.get?_push_of_some _ q))
          show wpAny _ _ _ _ _ _
          refine wpAny_pure ?_
          show wpAny _ _ (ret Value.none) _ _ _
          exact wpAny_pure ⟨rfl, h', tk, rfl, p1, p2⟩
        · obtain ⟨ol, hol, hcl, nl, hdl⟩ := hl
          obtain ⟨ocls, odict, odata, oslots⟩ := ol
          simp only at hcl hdl
          subst hcl hdl
          have hol' : (s.heap.push (freshSet w)).get? l = some { cls := .type "tuple", dict := odict, data := .seq items nl, slots := oslots } := Heap.get?_push_of_some _ hol
          have hsls := F.sub_tuple_set
          have hslf := F.sub_tuple_frozenset
          have hne : (Value.type "tuple" == Value.type "dict") = false := by decide
          have hl1 : (s.heap.push (freshSet w)).IsTuple l items := ⟨_, hol', rfl, nl, rfl⟩
          unfold Builtin.«set.__init__» noKeywords Builtin.Frozenset.updateFrom
          generalize hPI : pyIter = PI
          wp_walk
          subst hPI
          refine wpAny_pyIter_tuple hl1 (wpAny_bind (wpAny_runValue ?_))
          refine loop _ _ _ _ _ _ _ ((Walks.tuple hh3 _ l hneI items).toS) hSf hwr ⟨⟨_, Heap.get?_push_size _ rfl, rfl, rfl⟩, hl1.push _⟩ (fun b o q => Heap.get?_push_of_some _ (Heap.get?_push_of_some _ q)) (Heap.get?_push_of_some _ hS) fun s' hm hp => ?_
          obtain ⟨h', tk, rfl, p1, p2⟩ := fin hm hp rfl rfl (fun z => z) (fun b o q => Heap.get?_push_of_some _ (Heap.get?_push_of_some _ q))
          show wpAny _ _ _ _ _ _
          refine wpAny_pure ?_
          show wpAny _ _ (ret Value.none) _ _ _
          exact wpAny_pure ⟨rfl, h', tk, rfl, p1, p2⟩
      · cases r₂ with
        | error e => exact hr₂
        | ok fl₂ =>
          cases fl₂ with
          | ret r =>
            obtain ⟨rfl, h', tk, rfl, p1, p2⟩ := hr₂
            repeat (any_goals (first | assumption | wp_step))
            exact h _ _ p1 p2
          | _ => exact hr₂.elim
    | _ => exact hr.elim
end
end HF

set_option Elab.async false
set_option linter.all false
set_option maxRecDepth 100000
set_option maxHeartbeats 4000000
/-! ### G: sorted(set(..)), len(set(..)) -/
namespace HF
open PySem PySem.Spec PyProof.Rows L2

section
variable {α : Type} {lt : α → α → Bool}
theorem mem_uins (anti : ∀ x y, lt x y = false → lt y x = false → x = y) (x z : α) : ∀ l : List α, z ∈ uins lt x l ↔ z = x ∨ z ∈ l
  | [] => by simp [uins]
  | y :: r => by
    simp only [uins]
    split
    · rw [List.mem_cons, mem_uins anti x z r, List.mem_cons]
      constructor
      · rintro (h | h | h)
        · exact .inr (.inl h)
        · exact .inl h
        · exact .inr (.inr h)
      · rintro (h | h | h)
        · exact .inr (.inl h)
        · exact .inl h
        · exact .inr (.inr h)
    · split
      · simp
      · rename_i h1 h2
        have e : x = y := anti x y (by simpa using h2) (by simpa using h1)
        subst e
        simp
theorem mem_usort (anti : ∀ x y, lt x y = false → lt y x = false → x = y) (z : α) : ∀ l : List α, z ∈ usort lt l ↔ z ∈ l
  | [] => by simp [usort]
  | x :: r => by simp only [usort, mem_uins anti, mem_usort anti z r, List.mem_cons]
theorem uins_sorted (anti : ∀ x y, lt x y = false → lt y x = false → x = y) (tr : ∀ x y z, lt x y = true → lt y z = true → lt x z = true) (x : α) : ∀ l : List α, l.Pairwise (fun a b => lt a b = true) → (uins lt x l).Pairwise (fun a b => lt a b = true)
  | [], _ => by simp [uins]
  | y :: r, h => by
    simp only [uins]
    obtain ⟨h1, h2⟩ := List.pairwise_cons.mp h
    split
    · rename_i hy
      refine List.pairwise_cons.mpr ⟨fun z hz => ?_, uins_sorted anti tr x r h2⟩
      rcases (mem_uins anti x z r).mp hz with e | e
      · rw [e]; exact hy
      · exact h1 z e
    · split
      · rename_i h3
        refine List.pairwise_cons.mpr ⟨fun z hz => ?_, h⟩
        rcases List.mem_cons.mp hz with e | e
        · rw [e]; exact h3
        · exact tr _ _ _ h3 (h1 z e)
      · exact h
theorem usort_sorted (anti : ∀ x y, lt x y = false → lt y x = false → x = y) (tr : ∀ x y z, lt x y = true → lt y z = true → lt x z = true) : ∀ l : List α, (usort lt l).Pairwise (fun a b => lt a b = true)
  | [] => .nil
  | x :: r => uins_sorted anti tr x _ (usort_sorted anti tr r)
/-- a strictly rising list is told by its members -/
theorem usort_eq (ir : ∀ x, lt x x = false) (as : ∀ x y, lt x y = true → lt y x = false) (anti : ∀ x y, lt x y = false → lt y x = false → x = y) (tr : ∀ x y z, lt x y = true → lt y z = true → lt x z = true) {l m : List α}
    (h : l.Pairwise fun a b => lt a b = true) (hm : ∀ z, z ∈ l ↔ z ∈ m) : l = usort lt m := by
  have nd : ∀ {k : List α}, k.Pairwise (fun a b => lt a b = true) → k.Nodup := fun {k} q => q.imp fun {a b} z e => by
    subst e
    rw [ir] at z
    cases z
  have s2 := usort_sorted anti tr m
  refine sorted_same (R := fun a b => lt a b = true) (fun x y h1 h2 => ?_) h s2 ((List.perm_ext_iff_of_nodup (nd h) (nd s2)).mpr fun z => (hm z).trans (mem_usort anti z m).symm)
  rw [as _ _ h1] at h2
  cases h2
end
theorem ltI_anti (x y : Int) (h : ltI x y = false) (h' : ltI y x = false) : x = y := by
  unfold ltI at *
  simp at *
  omega
theorem ltI_tr2 (x y z : Int) (h : ltI x y = true) (h' : ltI y z = true) : ltI x z = true := by
  unfold ltI at *
  simp at *
  omega
theorem ltI_ir (x : Int) : ltI x x = false := by simp [ltI]
theorem lexP_anti2 (x y : Int × Int) (h1 : lexP x y = false) (h2 : lexP y x = false) : x = y := lexP_anti x y h2 h1
theorem lexP_tr2 (x y z : Int × Int) (h1 : lexP x y = true) (h2 : lexP y z = true) : lexP x z = true := by
  rw [lexP_eq] at *
  have a := SrtO.lexB_iff.mp h1
  have b := SrtO.lexB_iff.mp h2
  refine SrtO.lexB_iff.mpr ?_
  omega
theorem lexP_ir (x : Int × Int) : lexP x x = false := by
  rw [lexP_eq]
  refine SrtO.lexB_no.mpr ?_
  omega

section
variable {P : Program} {w : World} {A : Around} {s : Shared}
theorem loop_ints {items : Array Value} {ns : List Int} (hi : IntsAre items.toList ns) (hb : ns.length + 1 < scanBound) : LoopOk P w A s items fun h => ∃ c, c ≤ ns.length ∧ SetR w h s.heap.objs.size (fun j => decide (j ∈ ns)) c := by
  intro I fp wr G St s2 R W hS hw h0 k2 hf hR
  have hn : items.size = ns.length := by
    have q := IntsAre.length hi
    rw [Array.length_toList] at q
    exact q
  refine set_update_ints W s.heap.objs.size hS ns hn hb (fun i v hv => ?_) (items.size - 0) 0 s2 (by omega) (Nat.zero_le _) h0 ⟨0, Nat.le_refl 0, setR_new_at hf⟩ fun s' c hm hc hr => hR s' hm ⟨c, by omega, hr⟩
  have hi2 : i < ns.length := by rw [← hn]; exact (Array.getElem?_eq_some_iff.mp hv).1
  obtain ⟨t, e⟩ := PyProof.Rows.IntsAre.int_at hi i v (by rw [Array.getElem?_toList]; exact hv)
  refine ⟨ns[i], t, List.getElem?_eq_getElem hi2, ?_⟩
  rw [e, List.getD_eq_getElem?_getD, List.getElem?_eq_getElem hi2] <;> rfl
theorem loop_tups {items : Array Value} {ks : List (Addr × List Int)} (hi : items.toList = ks.map fun p => Value.ref p.1) (hk : ∀ p ∈ ks, IsT P w s.heap p.2 p.1) (hb : ks.length < 64) (hu : A.in1.units < cLine) :
    LoopOk P w A s items fun h => ∃ L es ep t, SetTR P w h s.heap.objs.size L es ep t ∧ Got ks ks.length L := by
  intro I fp wr G St s2 R W hS hw h0 k2 hf hR
  have hn : items.size = ks.length := by
    have q := congrArg List.length hi
    rw [Array.length_toList, List.length_map] at q
    exact q
  refine set_update_tups W s.heap.objs.size hS ks hn hb (fun i v hv => ?_) s.heap hk (Heap.get?_none_of_le (Nat.le_refl _)) hw hu (items.size - 0) 0 s2 (by omega) (Nat.zero_le _) h0 k2 ⟨[], #[], 0, _, setTR_fresh hf, Got.zero ks⟩ fun s' L es ep t hm ht hg hk' => hR s' hm ⟨L, es, ep, t, ht, by rw [← hn]; exact hg⟩
  have q : items.toList[i]? = some v := by rw [Array.getElem?_toList]; exact hv
  rw [hi, List.getElem?_map] at q
  cases hq : ks[i]? with
  | none => rw [hq] at q; cases q
  | some p =>
    rw [hq] at q
    exact ⟨p, rfl, (Option.some.inj q).symm⟩
end
section
variable {X : Cx}
def rSetI (w : World) : List V → Hp → VK → Prop := fun xs H Q => ∃ (a : Addr) (ns : List Int), xs = [.ref a] ∧ (H a = some (.lst (ns.map V.int)) ∨ H a = some (.tup (ns.map V.int))) ∧ ns.length < 60 ∧
  ∀ p c, H p = none → c ≤ ns.length → Q (.ref p) (upd H p (SetO w p (fun j => decide (j ∈ ns)) c))
def rSetP (P : Program) (w : World) : List V → Hp → VK → Prop := fun xs H Q => ∃ (a : Addr) (ks : List (Addr × List Int)), xs = [.ref a] ∧ (H a = some (.lst (ks.map fun p => V.ref p.1)) ∨ H a = some (.tup (ks.map fun p => V.ref p.1))) ∧ (∀ p ∈ ks, H p.1 = some (.tup (p.2.map V.int))) ∧ ks.length < 60 ∧
  ∀ a L, H a = none → (∀ p ∈ L, p ∈ ks) → (∀ p ∈ ks, p.2 ∈ L.map (·.2)) → Q (.ref a) (upd H a (SetTO P w a L))
theorem c_setI (hc : X.calm = true) : CallR X (.type "set") (rSetI X.w) := by
  intro pins s σ H xs us Q I r h
  obtain ⟨a, ns, rfl, hs, hl, q⟩ := h
  rw [Vals.ref1 r]
  obtain ⟨its, rv, hi, hz⟩ := seq_vals I hs
  refine call_set_any (I.ok.hd hc) hi (loop_ints (ns := ns) (by simpa using rv.ints) (by unfold scanBound; omega)) fun h' tk hp k => ?_
  obtain ⟨c, hc', R⟩ := hp
  exact ⟨.ref s.heap.objs.size, upd H s.heap.objs.size (SetO X.w s.heap.objs.size (fun j => decide (j ∈ ns)) c), I.laid (t' := tk) k (Nat.le_refl _) (setO_new R), rfl, q _ c I.fresh hc'⟩
theorem c_setP (hc : X.calm = true) (hu : X.A.units + 64 < cLine) : CallR X (.type "set") (rSetP X.prog X.w) := by
  intro pins s σ H xs us Q I r h
  obtain ⟨a, ks, rfl, hs, hk, hl, q⟩ := h
  rw [Vals.ref1 r]
  obtain ⟨its, rv, hi, hz⟩ := seq_vals I hs
  refine call_set_any (I.ok.hd hc) hi (loop_tups (ks := ks) (by simpa using refs_of_vals rv) (fun p hp => I.isT (SqT.of (hk p hp))) (by omega) (by show X.A.units + 3 < cLine; omega)) fun h' tk hp k => ?_
  obtain ⟨L, es, ep, t, R, g⟩ := hp
  refine ⟨.ref s.heap.objs.size, upd H s.heap.objs.size (SetTO X.prog X.w s.heap.objs.size L), I.laid (t' := tk) k (Nat.le_refl _) (setTO_new R.t0), rfl, q _ L I.fresh (fun p hp => ?_) fun p hp => ?_⟩
  · exact List.mem_of_mem_take (g.sub p hp)
  · exact g.all p (by rw [List.take_length]; exact hp)
def rSetB (P : Program) (w : World) : List V → Hp → VK → Prop := fun xs H Q => rSetI w xs H Q ∨ rSetP P w xs H Q
theorem c_set (hc : X.calm = true) (hu : X.A.units + 64 < cLine) : CallR X (.type "set") (rSetB X.prog X.w) := CallR.or (c_setI hc) (c_setP hc hu)
def rSorB (K : PySem.W.Frag) (P : Program) (w : World) : List V → Hp → VK → Prop := fun xs H Q => rSortedSet w xs H Q ∨ rSortedT K P w xs H Q
theorem c_sortedB (hc : X.calm = true) : CallR X (.builtin "sorted") (rSorB X.K X.prog X.w) := CallR.or (cr_sortedSet hc) (cr_sortedT hc)
def rLenSet (w : World) : List V → Hp → VK → Prop := fun xs H Q => ∃ (a : Addr) (S : Int → Bool) (n : Nat), xs = [.ref a] ∧ H a = some (SetO w a S n) ∧ ∀ ms : List Int, ms.Nodup → (∀ k, k ∈ ms ↔ S k = true) → ms.length = n → Q (.int n) H
theorem c_lenSet : CallR X (.builtin "len") (rLenSet X.w) := by
  intro pins s σ H xs us Q I r h
  obtain ⟨a, S, n, rfl, ha, q⟩ := h
  rw [Vals.ref1 r]
  obtain ⟨o, es, ep, t, ho, hex, hd, _, nd, hm, hb, hf, hn, _⟩ := setO_get I ha
  refine call_len_set ho hex hd hf (by unfold scanBound at hb; omega) ⟨.int n, H, I.tok _, ⟨_, by rw [hn]⟩, q (es.toList.map keyOf) nd (fun k => (hm k).symm) (by simp [hn])⟩

variable {Z : Fx} {e : Expr} {f : Env → O PyData}
theorem bd2 {i j : Int} (h : (decide (0 ≤ i) && decide (i < 64) && decide (0 ≤ j) && decide (j < 64)) = true) : 0 ≤ i ∧ i < 64 ∧ 0 ≤ j ∧ j < 64 := by
  simp only [Bool.and_eq_true, decide_eq_true_eq] at h
  exact ⟨h.1.1.1, h.1.1.2, h.1.2, h.2⟩
theorem sE_sset {p p2 q pos : Pos} (hK : X.K = Z.K) (hc : X.calm = true) (hu : X.A.units + 64 < cLine) (g1 : Gl X "sorted") (m1 : X.mg "sorted" = none) (g2 : Gl X "set") (m2 : X.mg "set" = none) (he : PE X e (TPv Z f))
    (ns : starEach [e] X.env = (false, eval e X.env) :: starEach [] X.env) :
    PE X (.Call (.Name "sorted" p) [.Call (.Name "set" p2) [e] [] q] [] pos) (TEv Z fun r => (f r).bind fun x => b1D .sset x) := by
  refine (pe_callB (c_sortedB hc) g1 m1 boot_sorted (pa_cons (pe_callTy (c_set hc hu) g2 m2 boot_set (pa_cons he pa_nil ns) (he := ns)) pa_nil)).imp fun σ H Q ⟨F, r, R, o⟩ => ?_
  refine ⟨F, r, R, (Out.bind.mp o).mono fun d _ hd v F1 H1 e1 sh => ?_⟩
  have hd' : Out Z H ((items d).bind fun xs => (ssetD xs).bind fun ys => .ok (.l ys)) fun x => ∀ v F' H', Ext F H F' H' → RepR Z.K H F' H' v x → Q v H' := by cases d <;> exact hd
  cases ei : items d with
  | ex c => cases d <;> cases ei
  | no => rw [ei] at hd'; exact hd'.elim
  | ok ds =>
    rw [ei, O.ok_bind] at hd'
    have sm := e1.fh
    obtain ⟨a, vs, rfl, hs, hD⟩ := seq_of sh sm ei
    unfold ssetD at hd'
    split at hd'
    · rename_i hlen
      split at hd'
      · rename_i ns qn
        have ev := hD.ints qn
        subst ev
        refine .inl ⟨a, ns, rfl, hs, by rw [← hD.len, List.length_map] at hlen; exact hlen, fun p c hp hcn => ?_⟩
        refine .inl ⟨p, _, c, rfl, upd_same, by rw [← hD.len, List.length_map] at hlen; omega, fun ms p2 h1 h2 h3 hp2 => ?_⟩
        have eq : ms = usort ltI ns := usort_eq ltI_ir ltI_as ltI_anti ltI_tr2 (h1.imp fun {a b} q => by simpa [ltI] using q) fun z => (h2 z).trans (by simp)
        have e2 : Ext F1 H1 F1 (upd H1 p (SetO X.w p (fun j => decide (j ∈ ns)) c)) := Ext.new sm hp
        have e3 : Ext F1 (upd H1 p (SetO X.w p (fun j => decide (j ∈ ns)) c)) F1 _ := Ext.new (o := .lst (ms.map V.int)) e2.fh hp2
        have o2 : ∀ v F' H', Ext F H F' H' → RepR Z.K H F' H' v (.l (ofI (usort ltI ns))) → Q v H' := hd'
        refine o2 _ _ _ ((e1.trans e2).trans e3) ⟨p2, ms.map V.int, rfl, Same.free (e1.hh.trans e2.hh) hp2, Ext.pre e2.fh hp2, upd_same, ?_⟩
        rw [← eq]
        exact DpAll.ofInts ms
      · split at hd'
        · rename_i ps qp
          split at hd'
          · rename_i hbd
            obtain ⟨p1, p2', p3⟩ := hD.pairs qp
            have o2 : ∀ v F' H', Ext F H F' H' → RepR Z.K H F' H' v (.l (ofP (usort lexP ps))) → Q v H' := hd'
            -- the addresses with their keys
            let kf : V → Addr × List Int := fun v => match v with
              | .ref t => (t, [(prAt F1 v).1, (prAt F1 v).2])
              | _ => (0, [])
            have kfe : ∀ v ∈ vs, ∃ t, v = .ref t ∧ kf v = (t, [(prAt F1 v).1, (prAt F1 v).2]) ∧ F1 t = some (.tup [.int (prAt F1 v).1, .int (prAt F1 v).2]) := fun v hv => by
              obtain ⟨t, e, ht⟩ := p3 v hv
              subst e
              exact ⟨t, rfl, rfl, ht⟩
            have kv : (vs.map kf).map (fun p => V.ref p.1) = vs := by
              rw [List.map_map]
              refine (List.map_congr_left fun v hv => ?_).trans (List.map_id _)
              obtain ⟨t, e, e2, _⟩ := kfe v hv
              show V.ref (kf v).1 = v
              rw [e2, e]
            have kk : ∀ p ∈ vs.map kf, ∃ i j, p.2 = [i, j] ∧ F1 p.1 = some (.tup [.int i, .int j]) ∧ (i, j) ∈ ps := fun p hp => by
              obtain ⟨v, hv, rfl⟩ := List.mem_map.mp hp
              obtain ⟨t, e, e2, ht⟩ := kfe v hv
              rw [e2]
              refine ⟨_, _, rfl, ht, ?_⟩
              rw [← p1]
              exact List.mem_map.mpr ⟨v, hv, rfl⟩
            have bd : ∀ i j, (i, j) ∈ ps → 0 ≤ i ∧ i < 64 ∧ 0 ≤ j ∧ j < 64 := fun i j hm => bd2 (List.all_eq_true.mp hbd _ hm)
            refine .inr ⟨a, vs.map kf, rfl, by rw [kv]; exact hs, fun p hp => ?_, by rw [List.length_map, hD.len]; exact hlen, fun q L hq hL1 hL2 => ?_⟩
            · obtain ⟨i, j, z1, z2, _⟩ := kk p hp
              rw [z1]
              exact sm _ _ z2
            have e2 : Ext F1 H1 F1 (upd H1 q (SetTO X.prog X.w q L)) := Ext.new sm hq
            refine .inr ⟨q, L, 2, 64, rfl, upd_same, fun p hp => ?_, by decide, fun p hp => ?_, fun L' q2 pm nd _ pw hq2 => ?_⟩
            · obtain ⟨i, j, z1, z2, _⟩ := kk p (hL1 p hp)
              rw [z1]
              exact SqT.of (e2.hh _ _ (sm _ _ z2))
            · obtain ⟨i, j, z1, z2, z3⟩ := kk p (hL1 p hp)
              have b := bd i j z3
              rw [z1]
              refine ⟨rfl, fun m hm => ?_⟩
              simp only [List.mem_cons, List.not_mem_nil, or_false] at hm
              rcases hm with rfl | rfl
              · exact ⟨b.1, b.2.1⟩
              · exact ⟨b.2.2.1, b.2.2.2⟩
            have e3 : Ext F1 (upd H1 q (SetTO X.prog X.w q L)) F1 _ := Ext.new (o := .lst (L'.map fun q => V.ref q.1)) e2.fh hq2
            refine o2 _ _ _ ((e1.trans e2).trans e3) ⟨q2, L'.map fun q => V.ref q.1, rfl, Same.free (e1.hh.trans e2.hh) hq2, Ext.pre e2.fh hq2, upd_same, ?_⟩
            have inL : ∀ p ∈ L', p ∈ vs.map kf := fun p hp => hL1 p (pm.mem_iff.mp hp)
            have pr : ∀ p ∈ L', prAt F1 (.ref p.1) = ((prAt F1 (.ref p.1)).1, (prAt F1 (.ref p.1)).2) ∧ p.2 = [(prAt F1 (.ref p.1)).1, (prAt F1 (.ref p.1)).2] ∧ F1 p.1 = some (.tup [.int (prAt F1 (.ref p.1)).1, .int (prAt F1 (.ref p.1)).2]) ∧ prAt F1 (.ref p.1) ∈ ps := fun p hp => by
              obtain ⟨i, j, z1, z2, z3⟩ := kk p (inL p hp)
              have ep : prAt F1 (.ref p.1) = (i, j) := by simp only [prAt, z2]
              rw [ep]
              exact ⟨rfl, z1, z2, z3⟩
            have eq : (L'.map fun q => V.ref q.1).map (prAt F1) = usort lexP ps := by
              refine usort_eq lexP_ir lexP_as lexP_anti2 lexP_tr2 ?_ fun z => ?_
              · rw [List.map_map]
                refine List.pairwise_map.mpr ?_
                have nd' : L'.Pairwise fun a b => a.2 ≠ b.2 := List.pairwise_map.mp nd
                refine (pw.and nd').imp_of_mem fun {a b} ha hb ⟨hle, hne⟩ => ?_
                obtain ⟨_, a1, _, a2⟩ := pr a ha
                obtain ⟨_, b1, _, b2⟩ := pr b hb
                show lexP (prAt F1 (.ref a.1)) (prAt F1 (.ref b.1)) = true
                generalize prAt F1 (.ref a.1) = pa at *
                generalize prAt F1 (.ref b.1) = pb at *
                rw [a1, b1] at hle hne
                have ba := bd pa.1 pa.2 a2
                have bb := bd pb.1 pb.2 b2
                rw [lexP_eq]
                exact SrtO.lexB_iff.mpr (pair_lt hle hne ⟨ba.1, ba.2.1⟩ ⟨ba.2.2.1, ba.2.2.2⟩ ⟨bb.1, bb.2.1⟩ ⟨bb.2.2.1, bb.2.2.2⟩)
              · rw [List.map_map]
                constructor
                · intro hz
                  obtain ⟨p, hp, rfl⟩ := List.mem_map.mp hz
                  exact (pr p hp).2.2.2
                · intro hz
                  rw [← p1] at hz
                  obtain ⟨v, hv, rfl⟩ := List.mem_map.mp hz
                  obtain ⟨t, ev, ek, ht⟩ := kfe v hv
                  obtain ⟨p, hp, hpe⟩ := List.mem_map.mp (hL2 (kf v) (List.mem_map.mpr ⟨v, hv, rfl⟩))
                  have hp' : p ∈ L' := pm.mem_iff.mpr hp
                  refine List.mem_map.mpr ⟨p, hp', ?_⟩
                  show prAt F1 (.ref p.1) = prAt F1 v
                  have q1 := (pr p hp').2.1
                  rw [hpe, ek] at q1
                  simp only [List.cons.injEq, and_true] at q1
                  exact (Prod.ext q1.1 q1.2).symm
            rw [← eq]
            refine dpAll_pairs _ fun v hv => ?_
            obtain ⟨p, hp, rfl⟩ := List.mem_map.mp hv
            exact ⟨p.1, rfl, (pr p hp).2.2.1⟩
          · exact hd'.elim
        · exact hd'.elim
    · exact hd'.elim
theorem sE_lset {p p2 q pos : Pos} (hK : X.K = Z.K) (hc : X.calm = true) (hu : X.A.units + 64 < cLine) (g1 : Gl X "len") (m1 : X.mg "len" = none) (g2 : Gl X "set") (m2 : X.mg "set" = none) (he : PE X e (TPv Z f))
    (ns : starEach [e] X.env = (false, eval e X.env) :: starEach [] X.env) :
    PE X (.Call (.Name "len" p) [.Call (.Name "set" p2) [e] [] q] [] pos) (TEv Z fun r => (f r).bind fun x => b1D .lset x) := by
  refine (pe_callB c_lenSet g1 m1 boot_len (pa_cons (pe_callTy (c_setI hc) g2 m2 boot_set (pa_cons he pa_nil ns) (he := ns)) pa_nil)).imp fun σ H Q ⟨F, r, R, o⟩ => ?_
  refine ⟨F, r, R, (Out.bind.mp o).mono fun d _ hd v F1 H1 e1 sh => ?_⟩
  have hd' : Out Z H ((items d).bind fun xs => (lsetD xs).bind fun n => .ok (.v (.int n))) fun x => ∀ v F' H', Ext F H F' H' → RepR Z.K H F' H' v x → Q v H' := by cases d <;> exact hd
  cases ei : items d with
  | ex c => cases d <;> cases ei
  | no => rw [ei] at hd'; exact hd'.elim
  | ok ds =>
    rw [ei, O.ok_bind] at hd'
    have sm := e1.fh
    obtain ⟨a, vs, rfl, hs, hD⟩ := seq_of sh sm ei
    unfold lsetD at hd'
    split at hd'
    · rename_i hlen
      split at hd'
      · rename_i ns qn
        have ev := hD.ints qn
        subst ev
        refine ⟨a, ns, rfl, hs, by rw [← hD.len, List.length_map] at hlen; exact hlen, fun p c hp hcn => ?_⟩
        refine ⟨p, _, c, rfl, upd_same, fun ms h1 h2 h3 => ?_⟩
        have e2 : Ext F1 H1 F1 (upd H1 p (SetO X.w p (fun j => decide (j ∈ ns)) c)) := Ext.new sm hp
        have o2 : ∀ v F' H', Ext F H F' H' → RepR Z.K H F' H' v (.v (.int (usort ltI ns).length)) → Q v H' := hd'
        have pm : ms.Perm (usort ltI ns) := by
          have nd : (usort ltI ns).Nodup := (usort_sorted ltI_anti ltI_tr2 ns).imp fun {a b} z e => by
            subst e
            rw [ltI_ir] at z
            cases z
          refine (List.perm_ext_iff_of_nodup h1 nd).mpr fun z => ?_
          rw [h2, mem_usort ltI_anti]
          simp
        have ec : c = (usort ltI ns).length := by rw [← h3, pm.length_eq]
        subst ec
        exact o2 _ _ _ (e1.trans e2) (.int _)
      · exact hd'.elim
    · exact hd'.elim
end
end HF

set_option Elab.async false
set_option linter.all false
set_option maxRecDepth 100000
set_option maxHeartbeats 4000000
/-! ### H: expressions -/
namespace HF
open PySem PySem.Spec PyProof.Rows L2

section
variable {X : Cx} {Z : Fx} {a b c e : Expr} {pos : Pos}

theorem nx_bin (op : Bop) (x y : PyData) : Nx (binD op x y) := by
  intro c h
  cases op <;> cases x <;> cases y <;> simp only [binD] at h <;> first | cases h | (split at h <;> cases h)
theorem nx_in (x y : PyData) : Nx (inD x y) := by
  intro c h
  cases y <;> simp only [inD] at h <;> first | cases h | (split at h <;> cases h)
theorem nx_cmp (op : Cop) (x y : PyData) : Nx (cmpD op x y) := by
  intro c h
  cases op with
  | inn =>
    have h' : inD x y = .ex c := by cases x <;> exact h
    exact nx_in x y c h'
  | nin =>
    have h' : (inD x y).bind (fun r => .ok (!r)) = .ex c := by cases x <;> exact h
    cases q : inD x y with
    | ok r => rw [q] at h'; cases h'
    | ex d => exact nx_in x y d q
    | no => rw [q] at h'; cases h'
  | eq =>
    have h' : (if SeqAt.shaped (unscr x) && SeqAt.shaped y then (.ok (PyData.eqv (unscr x) y) : O Bool) else .no) = .ex c := by cases x <;> exact h
    split at h' <;> cases h'
  | ne =>
    have h' : (if SeqAt.shaped (unscr x) && SeqAt.shaped y then (.ok (!PyData.eqv (unscr x) y) : O Bool) else .no) = .ex c := by cases x <;> exact h
    split at h' <;> cases h'
  | _ => cases x <;> cases y <;> cases h
theorem nx_bind {α β : Type} {o : O α} {f : α → O β} (h : Nx o) (hf : ∀ a, Nx (f a)) : Nx (o.bind f) := by
  intro c e
  cases q : o with
  | ok a => rw [q] at e; exact hf a c e
  | ex d => exact h d q
  | no => rw [q] at e; cases e
theorem nx_ok {α : Type} {a : α} : Nx (.ok a) := fun c e => by cases e

/-- what a rule on two values gives, from an outcome -/
theorem give_of {F H F1 H1 F2 H2 : Hp} {Q : VK} {g : O Res} (n : Nx g) (e : Ext F H F1 H1) (h : Out Z H g fun x => ∀ v F' H', Ext F H F' H' → RepR Z.K H F' H' v x → Q v H') : Ok g (Give Z.K F1 H1 Q) :=
  (h.ok n).mono fun x _ hx v F' H' e' rep => hx v F' H' (e.trans e') (rep.early e.hh)
theorem op2 {fa fb : Env → O PyData} {g : PyData → PyData → O Res} (ng : ∀ x y, Nx (g x y)) {σ : L2.St} {H : Hp} {Q : VK}
    (h : TEv Z (fun r => (fa r).bind fun x => (fb r).bind fun y => g x y) σ H Q) : tOp (rOp Z.K g) (TPv Z fa) (TPv Z fb) σ H Q := by
  obtain ⟨F, r, R, o⟩ := h
  refine ⟨F, r, R, (Out.bind.mp o).mono fun x _ hx v F1 H1 e1 s1 => ?_⟩
  refine ⟨F1, r, R.step e1, ((Out.bind.mp hx).later e1.hh).mono fun y _ hy u F2 H2 e2 s2 => ?_⟩
  exact ⟨F2, x, y, e2.fh, s1.step e2, s2, give_of (F2 := F2) (H2 := H2) (ng x y) (e1.trans e2) hy⟩
theorem sE_bin {op : Bop} {fa fb : Env → O PyData} (hK : X.K = Z.K) (ha : PE X a (TPv Z fa)) (hb : PE X b (TPv Z fb)) : PE X (.BinOp a (bopOf op) b pos) (TEv Z fun r => (fa r).bind fun x => (fb r).bind fun y => binD op x y) :=
  (pe_op (hK ▸ d_bin op) ha hb).imp fun σ H Q h => op2 (nx_bin op) h
theorem marks_ok {op : Cop} (hm : (match b with | .Set .. => false | _ => true) = true) : behindInMarks (copOf op) b = false := by
  cases b <;> first | rfl | cases hm
theorem sE_cmp {op : Cop} {fa fb : Env → O PyData} (hK : X.K = Z.K) (hu : X.A.units + 65 < cLine) (hm : (match b with | .Set .. => false | _ => true) = true) (ha : PE X a (TPv Z fa)) (hb : PE X b (TPv Z fb)) :
    PE X (.Compare a [copOf op] [b] pos) (TEv Z fun r => (fa r).bind fun x => (fb r).bind fun y => cB (cmpD op x y)) :=
  (pe_cmpR (hK ▸ d_cmp hu op) ha hb (marks_ok hm)).imp fun σ H Q h => op2 (fun x y => nx_bind (nx_cmp op x y) fun _ => nx_ok) h
/-- the test of an outcome -/
def tst (x : O Res) : O Bool := (dat x).bind toB
theorem toT {f : Env → O Res} {Q : Bool → Hp → Prop} {σ : L2.St} {H : Hp} (h : TTv Z (fun r => tst (f r)) σ H Q) : TEv Z f σ H fun x H' => ∃ k, x = .bl k ∧ Q k H' := by
  obtain ⟨F, r, R, o⟩ := h
  refine ⟨F, r, R, ?_⟩
  dsimp only at o
  cases q : f r with
  | no => rw [q] at o; exact o
  | ex c => rw [q] at o; exact o
  | ok x =>
    rw [q] at o
    cases x with
    | l _ => exact o.elim
    | k _ => exact o.elim
    | v d =>
      cases d with
      | bool k =>
        intro v F' H' e rep
        cases rep
        exact ⟨k, rfl, o F' H' e⟩
      | _ => exact o.elim
theorem sT_cmp {op : Cop} {fa fb : Env → O PyData} (hK : X.K = Z.K) (hu : X.A.units + 65 < cLine) (hm : (match b with | .Set .. => false | _ => true) = true) (ha : PE X a (TPv Z fa)) (hb : PE X b (TPv Z fb)) :
    PT X (.Compare a [copOf op] [b] pos) (TTv Z fun r => tst ((fa r).bind fun x => (fb r).bind fun y => cB (cmpD op x y))) :=
  (pt_cmpR (hK ▸ d_cmp hu op) ha hb (marks_ok hm)).imp fun σ H Q h => op2 (fun x y => nx_bind (nx_cmp op x y) fun _ => nx_ok) (toT h)
theorem sT_val {f : Env → O Res} (h : PE X e (TEv Z f)) (he : ∀ whole, isTrue e X.env whole = (do let v ← whole; standAt e.pos; holding [v] (truthy v))) : PT X e (TTv Z fun r => tst (f r)) :=
  (pt_val h he).imp fun σ H Q q => toT q
/-! not, and, or, if -/
theorem sE_not {f : Env → O Res} (h : PE X a (TEv Z f)) : PE X (.UnaryOp .Not a pos) (TEv Z fun r => (dat (f r)).bind fun x => (toB x).bind fun k => .ok (.v (.bool (!k)))) :=
  (pe_not (toD h)).imp fun σ H Q ⟨F, r, R, o⟩ => ⟨F, r, R, (Out.bind.mp o).mono fun d _ hd v F' H' e dp => by
    cases d with
    | bool k =>
      cases dp
      exact ⟨k, rfl, hd _ F' H' e (.bl _)⟩
    | _ => exact hd.elim⟩
theorem sT_not {f : Env → O Bool} (h : PT X a (TTv Z f)) : PT X (.UnaryOp .Not a pos) (TTv Z fun r => (f r).bind fun k => .ok (!k)) :=
  (pt_not h).imp fun σ H Q ⟨F, r, R, o⟩ => ⟨F, r, R, (Out.bind.mp o).mono fun k _ hk F' H' e => hk F' H' e⟩
theorem TTv.congr {f g : Env → O Bool} (h : ∀ r, f r = g r) : TTv Z f = TTv Z g := by
  have e : f = g := funext h
  rw [e]
theorem sE_neg {f : Env → O Res} (h : PE X a (TEv Z f)) : PE X (.UnaryOp .USub a pos) (TEv Z fun r => (dat (f r)).bind fun x => (toI x).bind fun i => .ok (.v (.int (-i)))) :=
  (pe_un un_neg (toD h)).imp fun σ H Q ⟨F, r, R, o⟩ => ⟨F, r, R, (Out.bind.mp o).mono fun d _ hd v F' H' e dp => by
    cases d with
    | int k =>
      cases dp
      exact ⟨k, rfl, hd _ F' H' e (.int _)⟩
    | _ => exact hd.elim⟩
theorem sE_ite {fc : Env → O Bool} {fa fb : Env → O Res} (hc : PT X c (TTv Z fc)) (ha : PE X a (TEv Z fa)) (hb : PE X b (TEv Z fb)) :
    PE X (.IfExp c a b pos) (TEv Z fun r => (fc r).bind fun t => match t with | true => fa r | false => fb r) :=
  (pe_ifExp hc ha hb).imp fun σ H Q ⟨F, r, R, o⟩ => ⟨F, r, R, (Out.bind.mp o).mono fun t _ ht F1 H1 e1 => by
    cases t with
    | true => exact iteT ⟨F1, r, R.step e1, (ht.later e1.hh).mono fun x _ hx v F' H' e rep => hx v F' H' (e1.trans e) (rep.early e1.hh)⟩
    | false => exact iteF ⟨F1, r, R.step e1, (ht.later e1.hh).mono fun x _ hx v F' H' e rep => hx v F' H' (e1.trans e) (rep.early e1.hh)⟩⟩
/-- one more of and, or, as a value -/
theorem sE_bo {isAnd : Bool} {rest : List Expr} {fa fb : Env → O Res} (ha : PE X a (TEv Z fa)) (hb : PE X (.BoolOp (if isAnd then .And else .Or) (b :: rest) pos) (TEv Z fb)) :
    PE X (.BoolOp (if isAnd then .And else .Or) (a :: b :: rest) pos) (TEv Z fun r => (dat (fa r)).bind fun x => (toB x).bind fun k => if k = isAnd then fb r else .ok (.v (.bool k))) := by
  cases isAnd with
  | true =>
    refine (pe_and (toD ha) hb).imp fun σ H Q ⟨F, r, R, o⟩ => ⟨F, r, R, (Out.bind.mp o).mono fun d _ hd v F1 H1 e1 dp => ?_⟩
    cases d with
    | bool k =>
      cases dp
      refine ⟨k, rfl, ?_⟩
      cases k with
      | true => exact iteT ⟨F1, r, R.step e1, (Out.later (Z := Z) (o := fb r) hd e1.hh).mono fun x _ hx v F' H' e rep => hx v F' H' (e1.trans e) (rep.early e1.hh)⟩
      | false => exact iteF (hd _ F1 H1 e1 (.bl _))
    | _ => exact hd.elim
  | false =>
    refine (pe_or (toD ha) hb).imp fun σ H Q ⟨F, r, R, o⟩ => ⟨F, r, R, (Out.bind.mp o).mono fun d _ hd v F1 H1 e1 dp => ?_⟩
    cases d with
    | bool k =>
      cases dp
      refine ⟨k, rfl, ?_⟩
      cases k with
      | false => exact iteF ⟨F1, r, R.step e1, (Out.later (Z := Z) (o := fb r) hd e1.hh).mono fun x _ hx v F' H' e rep => hx v F' H' (e1.trans e) (rep.early e1.hh)⟩
      | true => exact iteT (hd _ F1 H1 e1 (.bl _))
    | _ => exact hd.elim
theorem sE_bo1 {op : BoolOp} {fa : Env → O Res} (ha : PE X a (TEv Z fa)) : PE X (.BoolOp op [a] pos) (TEv Z fun r => (dat (fa r)).bind fun x => (toB x).bind fun k => .ok (.v (.bool k))) :=
  (pe_one (toD ha)).imp fun σ H Q ⟨F, r, R, o⟩ => ⟨F, r, R, (Out.bind.mp o).mono fun d _ hd v F1 H1 e1 dp => by
    cases d with
    | bool k => exact hd v F1 H1 e1 dp
    | _ => exact hd.elim⟩
theorem sW_bo {isAnd : Bool} {rest : List Expr} {fa fb : Env → O Bool} (ha : PT X a (TTv Z fa)) (hb : PW X (.BoolOp (if isAnd then .And else .Or) (b :: rest) pos) (TTv Z fb)) :
    PW X (.BoolOp (if isAnd then .And else .Or) (a :: b :: rest) pos) (TTv Z fun r => (fa r).bind fun k => if k = isAnd then fb r else .ok k) := by
  cases isAnd with
  | true =>
    refine ⟨fun wh pins s σ H Q I h => (pw_and ha hb).run wh pins s σ H Q I ?_⟩
    obtain ⟨F, r, R, o⟩ := h
    refine ⟨F, r, R, (Out.bind.mp o).mono fun k _ hk F1 H1 e1 => ?_⟩
    cases k with
    | true => exact iteT ⟨F1, r, R.step e1, (Out.later (Z := Z) (o := fb r) hk e1.hh).mono fun x _ hx F' H' e => hx F' H' (e1.trans e)⟩
    | false => exact iteF (hk F1 H1 e1)
  | false =>
    refine ⟨fun wh pins s σ H Q I h => (pw_or ha hb).run wh pins s σ H Q I ?_⟩
    obtain ⟨F, r, R, o⟩ := h
    refine ⟨F, r, R, (Out.bind.mp o).mono fun k _ hk F1 H1 e1 => ?_⟩
    cases k with
    | false => exact iteF ⟨F1, r, R.step e1, (Out.later (Z := Z) (o := fb r) hk e1.hh).mono fun x _ hx F' H' e => hx F' H' (e1.trans e)⟩
    | true => exact iteT (hk F1 H1 e1)
theorem sW_bo1 {isAnd : Bool} {fa : Env → O Bool} (ha : PT X a (TTv Z fa)) : PW X (.BoolOp (if isAnd then .And else .Or) [a] pos) (TTv Z fa) := by
  cases isAnd with
  | true => exact pw_and1 ha
  | false => exact pw_or1 ha
/-! a < b < c -/
theorem sE_chn {o1 o2 : Cop} {fa fb fc : Env → O Res} (hK : X.K = Z.K) (hu : X.A.units + 65 < cLine) (hm : lastMarks [copOf o1, copOf o2] [b, c] = false) (ha : PE X a (TEv Z fa)) (hb : PE X b (TEv Z fb)) (hc : PE X c (TEv Z fc)) :
    PE X (.Compare a [copOf o1, copOf o2] [b, c] pos) (TEv Z fun r => (dat (fa r)).bind fun x => (dat (fb r)).bind fun y => (cmpD o1 x y).bind fun t => match t with
      | true => (dat (fc r)).bind fun z => (cmpD o2 y z).bind fun t => .ok (.v (.bool t))
      | false => .ok (.v (.bool false))) := by
  refine (pe_chain (hK ▸ d_cmp hu o1) (hK ▸ d_cmp hu o2) (toP (toD ha)) (toP (toD hb)) (toP (toD hc)) hm).imp fun σ H Q h => ?_
  obtain ⟨F, r, R, o⟩ := h
  refine ⟨F, r, R, (Out.bind.mp o).mono fun x _ hx v F1 H1 e1 s1 => ?_⟩
  refine ⟨F1, r, R.step e1, ((Out.bind.mp hx).later e1.hh).mono fun y _ hy u F2 H2 e2 s2 => ?_⟩
  refine ⟨F2, x, y, e2.fh, s1.step e2, s2, ?_⟩
  refine Ok.bind.mpr (((Out.bind.mp hy).ok (nx_cmp o1 x y)).mono fun t et ht => ?_)
  have hy' := Out.bind.mp hy
  rw [et] at hy'
  intro v' F' H' e' rep
  cases rep
  refine ⟨t, rfl, ?_⟩
  have e3 := (e1.trans e2).trans e'
  cases t with
  | false => exact iteF (ht _ F' H' e3 (.bl _))
  | true =>
    refine iteT ⟨F', r, ((R.step e1).step e2).step e', ((Out.bind.mp ht).later e3.hh).mono fun z _ hz w F4 H4 e4 s4 => ?_⟩
    refine ⟨F4, y, z, e4.fh, (s2.step e').step e4, s4, ?_⟩
    refine Ok.bind.mpr (((Out.bind.mp hz).ok (nx_cmp o2 y z)).mono fun t2 _ ht2 => ?_)
    intro v5 F5 H5 e5 rep5
    exact ht2 v5 F5 H5 (e3.trans (e4.trans e5)) rep5
theorem sT_chn {o1 o2 : Cop} {fa fb fc : Env → O Res} (hK : X.K = Z.K) (hu : X.A.units + 65 < cLine) (hm : lastMarks [copOf o1, copOf o2] [b, c] = false) (ha : PE X a (TEv Z fa)) (hb : PE X b (TEv Z fb)) (hc : PE X c (TEv Z fc)) :
    PT X (.Compare a [copOf o1, copOf o2] [b, c] pos) (TTv Z fun r => tst ((dat (fa r)).bind fun x => (dat (fb r)).bind fun y => (cmpD o1 x y).bind fun t => match t with
      | true => (dat (fc r)).bind fun z => (cmpD o2 y z).bind fun t => .ok (.v (.bool t))
      | false => .ok (.v (.bool false)))) := by
  refine (pt_chain (hK ▸ d_cmp hu o1) (hK ▸ d_cmp hu o2) (toP (toD ha)) (toP (toD hb)) (toP (toD hc)) hm).imp fun σ H Q h => ?_
  obtain ⟨F, r, R, o⟩ := toT h
  refine ⟨F, r, R, (Out.bind.mp o).mono fun x _ hx v F1 H1 e1 s1 => ?_⟩
  refine ⟨F1, r, R.step e1, ((Out.bind.mp hx).later e1.hh).mono fun y _ hy u F2 H2 e2 s2 => ?_⟩
  refine ⟨F2, x, y, e2.fh, s1.step e2, s2, ?_⟩
  refine Ok.bind.mpr (((Out.bind.mp hy).ok (nx_cmp o1 x y)).mono fun t et ht => ?_)
  intro v' F' H' e' rep
  cases rep
  refine ⟨t, rfl, ?_⟩
  have e3 := (e1.trans e2).trans e'
  cases t with
  | false => exact iteF (ht _ F' H' e3 (.bl _))
  | true =>
    refine iteT ⟨F', r, ((R.step e1).step e2).step e', ((Out.bind.mp ht).later e3.hh).mono fun z _ hz w F4 H4 e4 s4 => ?_⟩
    refine ⟨F4, y, z, e4.fh, (s2.step e').step e4, s4, ?_⟩
    refine Ok.bind.mpr (((Out.bind.mp hz).ok (nx_cmp o2 y z)).mono fun t2 _ ht2 => ?_)
    intro v5 F5 H5 e5 rep5
    exact ht2 v5 F5 H5 (e3.trans (e4.trans e5)) rep5

/-! arguments, displays -/
theorem sA_nil : PA X [] (TAv Z fun _ => .ok []) := pa_nil.imp fun σ H Q ⟨F, r, R, o⟩ => o [] F H (.refl R.fh) .nil
theorem star_ok {es : List Expr} (h : (match e with | .Starred .. => false | _ => true) = true) : starEach (e :: es) X.env = (false, eval e X.env) :: starEach es X.env := by
  cases e <;> first | rfl | cases h
theorem sA_cons {es : List Expr} {f : Env → O Res} {g : Env → O (List PyData)} (hs : (match e with | .Starred .. => false | _ => true) = true) (h : PE X e (TEv Z f)) (ht : PA X es (TAv Z g)) :
    PA X (e :: es) (TAv Z fun r => (dat (f r)).bind fun d => (g r).bind fun ds => .ok (d :: ds)) :=
  (pa_cons (toD h) ht (star_ok hs)).imp fun σ H Q ⟨F, r, R, o⟩ => ⟨F, r, R, (Out.bind.mp o).mono fun d _ hd v F1 H1 e1 dp =>
    ⟨F1, r, R.step e1, ((Out.bind.mp hd).later e1.hh).mono fun ds _ hds vs F2 H2 e2 dps => hds (v :: vs) F2 H2 (e1.trans e2) (.cons (Dp.up dp e2.ff) dps)⟩⟩
theorem sE_tup {es : List Expr} {k : Nat} {g : Env → O (List PyData)} (hl : ∀ r ds, g r = .ok ds → ds.length ≤ 1000) (h : PA X es (TAv Z g)) : PE X (.Tuple es k pos) (TEv Z fun r => (g r).bind fun ds => .ok (.v (.tuple ds))) :=
  (pe_tup h).imp fun σ H Q ⟨F, r, R, o⟩ => ⟨F, r, R, (Out.bind.mp o).mono fun ds eds hds vs F1 H1 e1 dps => by
    refine ⟨Nat.le_trans (by rw [dps.len]; exact hl r ds eds) (by rw [sizeLine_eq]; decide), fun p hp => ?_⟩
    have e2 := Ext.newF (o := .tup vs) e1.fh hp
    exact hds _ _ _ (e1.trans e2) (.tup upd_same (DpAll.up dps e2.ff))⟩
theorem sE_lst {es : List Expr} {g : Env → O (List PyData)} (hl : ∀ r ds, g r = .ok ds → ds.length ≤ 1000) (h : PA X es (TAv Z g)) : PE X (.List es pos) (TEv Z fun r => (g r).bind fun ds => .ok (.l ds)) :=
  (pe_lst h).imp fun σ H Q ⟨F, r, R, o⟩ => ⟨F, r, R, (Out.bind.mp o).mono fun ds eds hds vs F1 H1 e1 dps => by
    refine ⟨Nat.le_trans (by rw [dps.len]; exact hl r ds eds) (by rw [sizeLine_eq]; decide), fun p hp => ?_⟩
    exact hds _ _ _ (e1.trans (Ext.new e1.fh hp)) ⟨p, vs, rfl, Same.free e1.hh hp, Ext.pre e1.fh hp, upd_same, dps⟩⟩

/-! items, slices -/
theorem nx_at (xs : List PyData) (i : Int) : Nx (atD xs i) := by
  intro c h
  unfold atD at h
  split at h
  · split at h <;> cases h
  · cases h
theorem nx_ix (x y : PyData) : Nx (ixD x y) := by
  intro c h
  cases x <;> cases y <;> simp only [ixD] at h <;> first | cases h | exact nx_at _ _ c h | skip
  split at h
  · split at h
    · split at h <;> cases h
    · cases h
  · cases h
theorem plain_ix (h : (match b with | .Slice .. => false | _ => true) = true) : PlainIx b := by
  intro o i
  cases b <;> first | rfl | cases h
theorem sE_ix {fa : Env → O PyData} {fb : Env → O Res} (hK : X.K = Z.K) (hm : (match b with | .Slice .. => false | _ => true) = true) (ha : PE X a (TPv Z fa)) (hb : PE X b (TEv Z fb)) :
    PE X (.Subscript a b pos) (TEv Z fun r => (fa r).bind fun x => (dat (fb r)).bind fun y => gV (ixD x y)) :=
  (pe_ix (hK ▸ x_ix) ha (toP (toD hb)) (plain_ix hm)).imp fun σ H Q h => op2 (fun x y => nx_bind (nx_ix x y) fun _ => nx_ok) h
theorem nx_bnd (n d : Nat) (p : PyData) : Nx (bndD n d p) := by
  intro c h
  cases p <;> cases h
theorem nx_slc (x y z : PyData) : Nx (slcD x y z) := by
  intro c h
  unfold slcD at h
  split at h
  · exact nx_bind (nx_bnd _ _ _) (fun _ => nx_bind (nx_bnd _ _ _) fun _ => nx_ok) c h
  · exact nx_bind (nx_bnd _ _ _) (fun _ => nx_bind (nx_bnd _ _ _) fun _ => nx_ok) c h
  · cases h
/-- a part of a slice: left out, or an expression -/
def TOv (Z : Fx) (f : Env → O PyData) : TO := fun σ H Q => ∃ F r, Rel Z σ r F H ∧ Out Z H (f r) fun d => ∃ i, optI d = .ok i ∧ ∀ F' H', Ext F H F' H' → Q i H'
theorem sO_none : PO X none (TOv Z fun _ => .ok .none) := ⟨fun pins s σ H Q I ⟨F, r, R, o⟩ => by
  obtain ⟨i, e, q⟩ := o
  cases e
  exact po_none.run pins s σ H Q I (q F H (.refl R.fh))⟩
theorem sO_some {f : Env → O Res} (h : PE X e (TEv Z f)) : PO X (some e) (TOv Z fun r => (dat (f r)).bind fun d => (toI d).bind fun i => .ok (.int i)) := ⟨fun pins s σ H Q I ⟨F, r, R, o⟩ => by
  refine (po_some (toD h)).run pins s σ H Q I ⟨F, r, R, (Out.bind.mp o).mono fun d _ hd v F1 H1 e1 dp => ?_⟩
  cases d with
  | int i =>
    cases dp
    obtain ⟨j, e, q⟩ := hd
    cases e
    exact ⟨i, rfl, q F1 H1 e1⟩
  | _ => exact hd.elim⟩
theorem sE_slc {lo hi : Option Expr} {p2 : Pos} {fa fl fh : Env → O PyData} (hK : X.K = Z.K) (ol : ∀ r d, fl r = .ok d → ∃ o, optI d = .ok o) (oh : ∀ r d, fh r = .ok d → ∃ o, optI d = .ok o) (ha : PE X a (TPv Z fa)) (hl : PO X lo (TOv Z fl)) (hh : PO X hi (TOv Z fh)) :
    PE X (.Subscript a (.Slice lo hi none p2) pos) (TEv Z fun r => (fa r).bind fun x => (fl r).bind fun y => (fh r).bind fun z => slcD x y z) := by
  refine (pe_slice (hK ▸ x_slc) ha hl hh).imp fun σ H Q h => ?_
  obtain ⟨F, r, R, o⟩ := h
  refine ⟨F, r, R, (Out.bind.mp o).mono fun x _ hx v F1 H1 e1 s1 => ?_⟩
  refine ⟨F1, r, R.step e1, ((Out.bind.mp hx).later e1.hh).mono fun y ey hy => ?_⟩
  obtain ⟨i, ei⟩ := ol r y ey
  refine ⟨i, ei, fun F2 H2 e2 => ?_⟩
  refine ⟨F2, r, (R.step e1).step e2, ((Out.bind.mp hy).later (e1.trans e2).hh).mono fun z ez hz => ?_⟩
  obtain ⟨j, ej⟩ := oh r z ez
  exact ⟨j, ej, fun F3 H3 e3 => ⟨F3, x, y, z, e3.fh, (s1.step e2).step e3, ei, ej, give_of (F2 := F3) (H2 := H3) (nx_slc x y z) ((e1.trans e2).trans e3) hz⟩⟩
end
end HF

set_option Elab.async false
set_option linter.all false
set_option maxRecDepth 100000
set_option maxHeartbeats 4000000
/-! ### I: calls, comprehensions, dicts -/
namespace HF
open PySem PySem.Spec PyProof.Rows L2

/-- a def's promise by its meaning -/
def spF (K : PySem.W.Frag) (cls : Nat → Addr) (n : Nat) (g : List Res → O Res) : Sp := fun vs H Q E => ∃ F ds, vs.length = n ∧ Same F H ∧ DpAll K F vs ds ∧ (match g (ds.map .v) with
  | .ok x => Give K F H Q x
  | .ex c => ∀ H', Same H H' → E (.ref (cls c)) none H'
  | .no => False)

abbrev noStar (e : Expr) : Bool := match e with
  | .Starred .. => false
  | _ => true
theorem star_any {env : PySem.Env} {pos : Pos} : ∀ es : List Expr, es.all noStar = true → (backTo pos (starEach es env)).any (·.1) = false
  | [], _ => rfl
  | e :: es, h => by
    simp only [List.all_cons, Bool.and_eq_true] at h
    have ih := star_any (env := env) (pos := pos) es h.2
    have q : starEach (e :: es) env = (false, eval e env) :: starEach es env := by
      cases e <;> first | rfl | cases h.1
    rw [q]
    show (false || (backTo pos (starEach es env)).any (·.1)) = false
    rw [ih]
    rfl

section
variable {X : Cx} {Z : Fx} {a b c e : Expr} {pos : Pos}
theorem sE_call {x : Str} {p : Pos} {f : Addr} {fd : FuncData} {ps : List Str} {k : Nat} {g : List Res → O Res} {es : List Expr} {ga : Env → O (List PyData)}
    (Fn : FnOk X.prog X.w X.K X.mg X.base (L2.CX X.prog X.w) k f fd ps (spF Z.K Z.cls ps.length g)) (hr : Room k X.A) (hg : Gl X x) (hm : X.mg x = some (.ref f)) (hk : PySem.W.keepIn X.K (.ref f) = true) (hb : Binds X.K fd ps [])
    (hx : Passes (L2.CX X.prog X.w) X Z.E) (hgn : ∀ as, g as ≠ .no → as.length = ps.length) (hst : (e :: es).all noStar = true) (hdb : (x == ("__debug__" : Str)) = false) (ha : PA X (e :: es) (TAv Z ga)) :
    PE X (.Call (.Name x p) (e :: es) [] pos) (TEv Z fun r => (ga r).bind fun ds => g (ds.map .v)) := by
  have h1 : noStar e = true := by simp only [List.all_cons, Bool.and_eq_true] at hst; exact hst.1
  have h2 : es.all noStar = true := by simp only [List.all_cons, Bool.and_eq_true] at hst; exact hst.2
  refine (pe_call Fn hr hg hm hk hb .nil hx ha hdb (star_ok h1) (star_any es h2)).imp fun σ H Q ⟨F, r, R, o⟩ => ⟨F, r, R, (Out.bind.mp o).mono fun ds _ hds vs F1 H1 e1 dps => ?_⟩
  show spF Z.K Z.cls ps.length g (vs ++ []) H1 Q Z.E
  rw [List.append_nil]
  have hn : g (ds.map .v) ≠ .no := fun q => by rw [q] at hds; exact hds
  refine ⟨F1, ds, ?_, e1.fh, dps, ?_⟩
  · have := hgn _ hn
    rw [List.length_map] at this
    rw [dps.len]
    exact this
  · cases q : g (ds.map .v) with
    | ok y =>
      rw [q] at hds
      exact fun v F' H' e' rep => hds v F' H' (e1.trans e') (rep.early e1.hh)
    | ex d =>
      rw [q] at hds
      exact fun H' s => hds H' (e1.hh.trans s)
    | no => exact hn q
/-! built-ins of one argument -/
theorem c1 {g : PyData → O Res} {fa : Env → O PyData} (ng : ∀ x, Nx (g x)) {σ : L2.St} {H : Hp} {Q : VK} (h : TEv Z (fun r => (fa r).bind g) σ H Q) : tCB (rC1 Z.K g) (tCons (TPv Z fa) tNil) σ H Q := by
  obtain ⟨F, r, R, o⟩ := h
  exact ⟨F, r, R, (Out.bind.mp o).mono fun x _ hx v F1 H1 e1 s1 => ⟨F1, v, x, rfl, e1.fh, s1, give_of (F2 := F1) (H2 := H1) (ng x) e1 hx⟩⟩
theorem sE_fn1 {x : Str} {id : String} {p : Pos} {g : PyData → O Res} {fa : Env → O PyData} (ng : ∀ x, Nx (g x)) (hc : CallR X (.builtin id) (rC1 Z.K g)) (hg : Gl X x) (hm : X.mg x = none) (hv : bootBuiltins x = some (.builtin id)) (hn : x ≠ "__name__") (hdb : (x == ("__debug__" : Str)) = false)
    (hs : noStar a = true) (ha : PE X a (TPv Z fa)) : PE X (.Call (.Name x p) [a] [] pos) (TEv Z fun r => (fa r).bind g) :=
  (pe_callB hc hg hm hv (pa_cons ha pa_nil (star_ok hs)) hn hdb (star_ok hs) rfl).imp fun σ H Q h => c1 ng h
theorem sE_ty1 {x : Str} {T : String} {p : Pos} {g : PyData → O Res} {fa : Env → O PyData} (ng : ∀ x, Nx (g x)) (hc : CallR X (.type T) (rC1 Z.K g)) (hg : Gl X x) (hm : X.mg x = none) (hv : bootBuiltins x = some (.type T)) (hn : x ≠ "__name__") (hdb : (x == ("__debug__" : Str)) = false)
    (hs : noStar a = true) (ha : PE X a (TPv Z fa)) : PE X (.Call (.Name x p) [a] [] pos) (TEv Z fun r => (fa r).bind g) :=
  (pe_callTy hc hg hm hv (pa_cons ha pa_nil (star_ok hs)) hn hdb (star_ok hs) rfl).imp fun σ H Q h => c1 ng h
theorem nx_items (d : PyData) : Nx (items d) := by
  intro c h
  cases d <;> cases h
theorem nx_sort (xs : List PyData) : Nx (sortD xs) := by
  intro c h
  unfold sortD at h
  split at h
  · cases h
  · split at h <;> cases h
theorem nx_sset (xs : List PyData) : Nx (ssetD xs) := by
  intro c h
  unfold ssetD at h
  split at h
  · split at h
    · cases h
    · split at h
      · split at h <;> cases h
      · cases h
  · cases h
theorem nx_lset (xs : List PyData) : Nx (lsetD xs) := by
  intro c h
  unfold lsetD at h
  split at h
  · split at h <;> cases h
  · cases h
theorem nx_b1 (b : B1) (d : PyData) : Nx (b1D b d) := by
  cases b with
  | sorted =>
    intro c h
    have h' : ((items d).bind fun xs => (sortD xs).bind fun ys => (.ok (.l ys) : O Res)) = .ex c := by cases d <;> exact h
    exact nx_bind (nx_items d) (fun xs => nx_bind (nx_sort xs) fun _ => nx_ok) c h'
  | sset =>
    intro c h
    have h' : ((items d).bind fun xs => (ssetD xs).bind fun ys => (.ok (.l ys) : O Res)) = .ex c := by cases d <;> exact h
    exact nx_bind (nx_items d) (fun xs => nx_bind (nx_sset xs) fun _ => nx_ok) c h'
  | lset =>
    intro c h
    have h' : ((items d).bind fun xs => (lsetD xs).bind fun n => (.ok (.v (.int n)) : O Res)) = .ex c := by cases d <;> exact h
    exact nx_bind (nx_items d) (fun xs => nx_bind (nx_lset xs) fun _ => nx_ok) c h'
  | _ => intro c h; cases d <;> simp only [b1D] at h <;> first | cases h | (split at h <;> cases h)
/-- max(a, b), min(a, b) -/
theorem sE_b2 {isMax : Bool} {p : Pos} {fa fb : Env → O Res} (hc : X.calm = true) (hg : Gl X (if isMax then "max" else "min")) (hm : X.mg (if isMax then "max" else "min") = none) (h1 : noStar a = true) (h2 : noStar b = true) (ha : PE X a (TEv Z fa)) (hb : PE X b (TEv Z fb)) :
    PE X (.Call (.Name (if isMax then "max" else "min") p) [a, b] [] pos) (TEv Z fun r => (dat (fa r)).bind fun x => (dat (fb r)).bind fun y => (toI x).bind fun i => (toI y).bind fun j =>
      .ok (.v (.int (if isMax then (if j > i then j else i) else (if j < i then j else i))))) := by
  have fin : ∀ {σ : L2.St} {H : Hp} {Q : VK} {g : Int → Int → Int}, TEv Z (fun r => (dat (fa r)).bind fun x => (dat (fb r)).bind fun y => (toI x).bind fun i => (toI y).bind fun j => .ok (.v (.int (g i j)))) σ H Q →
      tCB (fun xs H Q => ∃ i j, xs = [.int i, .int j] ∧ Q (.int (g i j)) H) (tCons (TDv Z fun r => dat (fa r)) (tCons (TDv Z fun r => dat (fb r)) tNil)) σ H Q := by
    intro σ H Q g ⟨F, r, R, o⟩
    refine ⟨F, r, R, (Out.bind.mp o).mono fun x _ hx v F1 H1 e1 d1 => ⟨F1, r, R.step e1, ((Out.bind.mp hx).later e1.hh).mono fun y _ hy u F2 H2 e2 d2 => ?_⟩⟩
    cases x with
    | int i =>
      cases y with
      | int j =>
        cases d1
        cases d2
        exact ⟨i, j, rfl, hy _ F2 H2 (e1.trans e2) (.int _)⟩
      | _ => exact hy.elim
    | _ => exact hy.elim
  cases isMax with
  | true => exact (pe_callB (call_max2 hc) hg hm boot_max (pa_cons (toD ha) (pa_cons (toD hb) pa_nil (star_ok h2)) (star_ok h1)) (by decide) (by decide) (star_ok h1) (star_any [b] (by simpa using h2))).imp fun σ H Q h => fin h
  | false => exact (pe_callB (call_min2 hc) hg hm boot_min (pa_cons (toD ha) (pa_cons (toD hb) pa_nil (star_ok h2)) (star_ok h1)) (by decide) (by decide) (star_ok h1) (star_any [b] (by simpa using h2))).imp fun σ H Q h => fin h
theorem nx_isi (t : Ty) (d : PyData) : Nx (isiD t d) := by
  intro c h
  cases t <;> cases d <;> cases h
theorem sE_isi {t : Ty} {p p2 : Pos} {fa : Env → O PyData} (hK : X.K = Z.K) (hg : Gl X "isinstance") (hm : X.mg "isinstance" = none) (gt : Gl X (tyN t)) (mt : X.mg (tyN t) = none) (hs : noStar a = true) (ha : PE X a (TPv Z fa)) :
    PE X (.Call (.Name "isinstance" p) [a, .Name (tyN t) p2] [] pos) (TEv Z fun r => (fa r).bind fun x => cB (isiD t x)) := by
  have hty : PE X (.Name (tyN t) p2) (tC (.ty (tyN t))) := by
    cases t <;> exact pe_bltn gt mt (by decide +kernel) rfl (by decide) (by decide)
  refine (pe_callB (hK ▸ c_isi t) hg hm boot_isinstance (pa_cons ha (pa_cons hty pa_nil rfl) (star_ok hs)) (by decide) (by decide) (star_ok hs) rfl).imp fun σ H Q ⟨F, r, R, o⟩ => ?_
  exact ⟨F, r, R, (Out.bind.mp o).mono fun x _ hx v F1 H1 e1 s1 => ⟨F1, v, x, rfl, e1.fh, s1, give_of (F2 := F1) (H2 := H1) (nx_bind (nx_isi t x) fun _ => nx_ok) e1 hx⟩⟩

/-! what is walked -/
/-- J tells ds, while B stands; its items are frozen data -/
def Wk (K : PySem.W.Frag) (F B : Hp) (J : L2.It) (ds : List PyData) : Prop := ∀ H', Same B H' → J.stop ds.length H' ∧ ∀ (i : Nat) d, ds[i]? = some d → J.go i H' ∧ ∀ x Hn, J.yld i H' x Hn → ∀ F', Same F F' → Same F' H' → ∃ Fn, Ext F' H' Fn Hn ∧ Dp K Fn x d
def TIp (Z : Fx) (f : Env → O (List PyData)) : TI := fun σ H R => ∃ F r, Rel Z σ r F H ∧ Out Z H (f r) fun ds => ∀ J F' H', Ext F H F' H' → ds.length ≤ sizeLine → Wk Z.K F' H' J ds → R J H'
def TIf (Z : Fx) (f : Env → O (List PyData)) : TI := fun σ H R => ∃ F r, Rel Z σ r F H ∧ Out Z H (f r) fun ds => ∀ J F' H', Ext F H F' H' → ds.length ≤ sizeLine → Wk Z.K F' F' J ds → R J H'
theorem _root_.L2.PI.imp {tg : Expr} {w w' : TI} (h : PI X tg e w) (q : ∀ σ H R, w' σ H R → w σ H R) : PI X tg e w' := ⟨fun pins s σ H R I z => h.run pins s σ H R I (q σ H R z)⟩
theorem pi_or {tg : Expr} {w w' : TI} (h : PI X tg e w) (h' : PI X tg e w') : PI X tg e (fun σ H R => w σ H R ∨ w' σ H R) := ⟨fun pins s σ H R I z => by
  rcases z with z | z
  · exact h.run pins s σ H R I z
  · exact h'.run pins s σ H R I z⟩
theorem Wk.early {K : PySem.W.Frag} {F B B' : Hp} {J : L2.It} {ds : List PyData} (h : Wk K F B J ds) (s : Same B B') : Wk K F B' J ds := fun H' q => h H' (s.trans q)
theorem wk_list {K : PySem.W.Frag} {F B : Hp} {a : Addr} {vs : List V} {ds : List PyData} (h : B a = some (.lst vs)) (hd : DpAll K F vs ds) : Wk K F B (Itl K a) ds := by
  intro H' s
  have q : SqL K H' a vs := SqL.of (s _ _ h)
  refine ⟨⟨vs, q, by rw [hd.len]; exact Nat.le_refl _⟩, fun i d hi => ?_⟩
  obtain ⟨v, h1, h2⟩ := hd.getD hi
  refine ⟨⟨vs, v, q, h1⟩, fun x Hn y F' sf sh => ?_⟩
  obtain ⟨e, y⟩ := y
  subst e
  have ex : x = v := Option.some.inj ((y vs q).symm.trans h1)
  subst ex
  exact ⟨F', .refl sh, Dp.up h2 sf⟩
theorem wk_tup {K : PySem.W.Frag} {F B : Hp} {a : Addr} {vs : List V} {ds : List PyData} (h : B a = some (.tup vs)) (hd : DpAll K F vs ds) : Wk K F B (Itt K a) ds := by
  intro H' s
  have q : SqT K H' a vs := SqT.of (s _ _ h)
  refine ⟨⟨vs, q, by rw [hd.len]; exact Nat.le_refl _⟩, fun i d hi => ?_⟩
  obtain ⟨v, h1, h2⟩ := hd.getD hi
  refine ⟨⟨vs, v, q, h1⟩, fun x Hn y F' sf sh => ?_⟩
  obtain ⟨e, y⟩ := y
  subst e
  have ex : x = v := Option.some.inj ((y vs q).symm.trans h1)
  subst ex
  exact ⟨F', .refl sh, Dp.up h2 sf⟩
theorem rngL_get (lo : Int) : ∀ (n i : Nat), (rngL lo n)[i]? = if i < n then some (.int (lo + i)) else none := by
  intro n
  induction n generalizing lo with
  | zero => intro i; simp [rngL]
  | succ n ih =>
    intro i
    cases i with
    | zero => simp [rngL]
    | succ i =>
      simp only [rngL, List.getElem?_cons_succ, ih, Nat.add_lt_add_iff_right]
      have e : lo + 1 + (i : Int) = lo + ((i + 1 : Nat) : Int) := by omega
      rw [e]
theorem rngL_len (lo : Int) : ∀ n : Nat, (rngL lo n).length = n := by
  intro n
  induction n generalizing lo with
  | zero => rfl
  | succ n ih => simp only [rngL, List.length_cons, ih]
theorem wk_rng {K : PySem.W.Frag} {F B : Hp} (lo : Int) (n : Nat) : Wk K F B (Itr lo n) (rngL lo n) := by
  intro H' s
  refine ⟨by rw [rngL_len]; exact Nat.le_refl n, fun i d hi => ?_⟩
  rw [rngL_get] at hi
  split at hi
  · rename_i hlt
    cases hi
    refine ⟨hlt, fun x Hn y F' sf sh => ?_⟩
    obtain ⟨e, y⟩ := y
    subst e y
    exact ⟨F', .refl sh, .int _⟩
  · cases hi
theorem sI_seq {tg : Expr} {f : Env → O PyData} (hK : X.K = Z.K) (hsz : ∀ (pins : List (Addr × Obj)) (s : Shared) (σ : L2.St) (H : Hp) (a : Addr) (vs : List V), Inv X pins σ H s → (H a = some (.lst vs) ∨ H a = some (.tup vs)) → vs.length ≤ sizeLine) (h : PE X e (TPv Z f)) :
    PI X tg e (TIp Z fun r => (f r).bind items) := by
  refine ⟨fun pins s σ H R I hw => ?_⟩
  obtain ⟨F, r, RR, o⟩ := hw
  have o' := Out.bind.mp o
  cases q : f r with
  | no => rw [q] at o'; exact o'.elim
  | ex c =>
    rw [q] at o'
    refine (pi_list (tg := tg) h).run pins s σ H R I ⟨F, r, RR, ?_⟩
    rw [q]
    exact o'
  | ok d =>
    rw [q] at o'
    cases d with
    | list ds =>
      refine wpAny_mono ((pi_list (tg := tg) h).run pins s σ H (fun J H1 => ∃ F1 a vs, J = Itl X.K a ∧ Ext F H F1 H1 ∧ H1 a = some (.lst vs) ∧ DpAll Z.K F1 vs ds) I ⟨F, r, RR, ?_⟩) (fun v s1 h1 => thn h1 fun itv s2 h2 => ?_) fun _ _ z => z
      · rw [q]
        intro v F1 H1 e1 sh
        obtain ⟨a, vs, rfl, h1, h2⟩ := sh.list e1.fh
        exact ⟨a, rfl, ⟨vs, SqL.of h1⟩, F1, a, vs, rfl, e1, h1, h2⟩
      · obtain ⟨it, fp, tn, J, H2, e, I2, T, st, ff, F1, a, vs, rfl, e1, h1, h2⟩ := h2
        refine ⟨it, fp, tn, _, H2, e, I2, T, st, ff, o' _ F1 H2 e1 ?_ ?_⟩
        · rw [← h2.len]
          exact hsz pins s2 σ H2 a vs I2 (.inl h1)
        · rw [hK]
          exact wk_list h1 h2
    | tuple ds =>
      refine wpAny_mono ((pi_tup (tg := tg) h).run pins s σ H (fun J H1 => ∃ F1 a vs, J = Itt X.K a ∧ Ext F H F1 H1 ∧ F1 a = some (.tup vs) ∧ DpAll Z.K F1 vs ds) I ⟨F, r, RR, ?_⟩) (fun v s1 h1 => thn h1 fun itv s2 h2 => ?_) fun _ _ z => z
      · rw [q]
        intro v F1 H1 e1 sh
        obtain ⟨a, vs, rfl, h0, h1, h2⟩ := sh.tuple e1.fh
        exact ⟨a, rfl, ⟨vs, SqT.of h1⟩, F1, a, vs, rfl, e1, h0, h2⟩
      · obtain ⟨it, fp, tn, J, H2, e, I2, T, st, ff, F1, a, vs, rfl, e1, h1, h2⟩ := h2
        refine ⟨it, fp, tn, _, H2, e, I2, T, st, ff, o' _ F1 H2 e1 ?_ ?_⟩
        · rw [← h2.len]
          exact hsz pins s2 σ H2 a vs I2 (.inr (e1.fh _ _ h1))
        · rw [hK]
          exact wk_tup (e1.fh _ _ h1) h2
    | _ => exact o'.elim
theorem inv_size {pins : List (Addr × Obj)} {s : Shared} {σ : L2.St} {H : Hp} {a : Addr} {vs : List V} (I : Inv X pins σ H s) (h : H a = some (.lst vs) ∨ H a = some (.tup vs)) : vs.length ≤ sizeLine := by
  rcases h with h | h
  · exact (I.hok a _ h).1
  · exact (I.hok a _ h).1
theorem sI_p {tg : Expr} {f : Env → O PyData} (hK : X.K = Z.K) (h : PE X e (TPv Z f)) : PI X tg e (TIp Z fun r => (f r).bind items) := sI_seq hK (fun _ _ _ _ _ _ I q => inv_size I q) h
theorem sI_f {tg : Expr} {f : Env → O PyData} (hK : X.K = Z.K) (h : PE X e (TDv Z f)) : PI X tg e (TIf Z fun r => (f r).bind items) := by
  refine ⟨fun pins s σ H R I hw => ?_⟩
  obtain ⟨F, r, RR, o⟩ := hw
  have o' := Out.bind.mp o
  cases q : f r with
  | no => rw [q] at o'; exact o'.elim
  | ex c =>
    rw [q] at o'
    refine (pi_list (tg := tg) h).run pins s σ H R I ⟨F, r, RR, ?_⟩
    rw [q]
    exact o'
  | ok d =>
    rw [q] at o'
    cases d with
    | list ds =>
      refine wpAny_mono ((pi_list (tg := tg) h).run pins s σ H (fun J H1 => ∃ F1 a vs, J = Itl X.K a ∧ Ext F H F1 H1 ∧ F1 a = some (.lst vs) ∧ DpAll Z.K F1 vs ds) I ⟨F, r, RR, ?_⟩) (fun v s1 h1 => thn h1 fun itv s2 h2 => ?_) fun _ _ z => z
      · rw [q]
        intro v F1 H1 e1 dp
        cases dp with
        | lst h1 h2 => exact ⟨_, rfl, ⟨_, SqL.of (e1.fh _ _ h1)⟩, F1, _, _, rfl, e1, h1, h2⟩
      · obtain ⟨it, fp, tn, J, H2, e, I2, T, st, ff, F1, a, vs, rfl, e1, h1, h2⟩ := h2
        refine ⟨it, fp, tn, _, H2, e, I2, T, st, ff, o' _ F1 H2 e1 ?_ ?_⟩
        · rw [← h2.len]
          exact inv_size I2 (.inl (e1.fh _ _ h1))
        · rw [hK]
          exact wk_list h1 h2
    | tuple ds =>
      refine wpAny_mono ((pi_tup (tg := tg) h).run pins s σ H (fun J H1 => ∃ F1 a vs, J = Itt X.K a ∧ Ext F H F1 H1 ∧ F1 a = some (.tup vs) ∧ DpAll Z.K F1 vs ds) I ⟨F, r, RR, ?_⟩) (fun v s1 h1 => thn h1 fun itv s2 h2 => ?_) fun _ _ z => z
      · rw [q]
        intro v F1 H1 e1 dp
        cases dp with
        | tup h1 h2 => exact ⟨_, rfl, ⟨_, SqT.of (e1.fh _ _ h1)⟩, F1, _, _, rfl, e1, h1, h2⟩
      · obtain ⟨it, fp, tn, J, H2, e, I2, T, st, ff, F1, a, vs, rfl, e1, h1, h2⟩ := h2
        refine ⟨it, fp, tn, _, H2, e, I2, T, st, ff, o' _ F1 H2 e1 ?_ ?_⟩
        · rw [← h2.len]
          exact inv_size I2 (.inr (e1.fh _ _ h1))
        · rw [hK]
          exact wk_tup h1 h2
    | _ => exact o'.elim
theorem rngD_ok {i j : Int} {ds : List PyData} (h : rngD i j = .ok ds) : ds = rngL i (j - i).toNat ∧ (-(2 ^ 62) ≤ i ∧ i < 2 ^ 62 ∧ -(2 ^ 62) ≤ j ∧ j < 2 ^ 62) ∧ (j - i).toNat ≤ cap := by
  unfold rngD at h
  split at h
  · rename_i q
    cases h
    refine ⟨rfl, ?_, q.2.2.2.2⟩
    omega
  · cases h
theorem nx_rng (i j : Int) : Nx (rngD i j) := by
  intro c h
  unfold rngD at h
  split at h <;> cases h
theorem sI_rng1 {tg : Expr} {p : Pos} {fa : Env → O Res} (hg : Gl X "range") (hm : X.mg "range" = none) (hs : noStar a = true) (ha : PE X a (TEv Z fa)) :
    PI X tg (.Call (.Name "range" p) [a] [] pos) (TIf Z fun r => (dat (fa r)).bind fun x => (toI x).bind fun j => rngD 0 j) := by
  refine (pi_range1 hg hm (pa_cons (toD ha) pa_nil (star_ok hs)) (star_ok hs)).imp fun σ H R ⟨F, r, RR, o⟩ => ⟨F, r, RR, (Out.bind.mp o).mono fun x _ hx v F1 H1 e1 dp => ?_⟩
  cases x with
  | int j =>
    cases dp
    have hx' : Out Z H (rngD 0 j) _ := hx
    have k := hx'.ok (nx_rng 0 j)
    cases q : rngD 0 j with
    | ok ds =>
      rw [q] at k
      obtain ⟨rfl, hb, hc⟩ := rngD_ok q
      refine ⟨j, rfl, hb.2.2.1, hb.2.2.2, ?_⟩
      have e : j - 0 = j := by omega
      rw [e] at k hc
      exact k _ F1 H1 e1 (by rw [rngL_len]; exact cap_line hc) (wk_rng 0 _)
    | ex c => rw [q] at k; exact k.elim
    | no => rw [q] at k; exact k.elim
  | _ => exact hx.elim
theorem sI_rng2 {tg : Expr} {p : Pos} {fa fb : Env → O Res} (hg : Gl X "range") (hm : X.mg "range" = none) (hs : noStar a = true) (hs2 : noStar b = true) (ha : PE X a (TEv Z fa)) (hb : PE X b (TEv Z fb)) :
    PI X tg (.Call (.Name "range" p) [a, b] [] pos) (TIf Z fun r => (dat (fa r)).bind fun x => (dat (fb r)).bind fun y => (toI x).bind fun i => (toI y).bind fun j => rngD i j) := by
  refine (pi_range2 hg hm (pa_cons (toD ha) (pa_cons (toD hb) pa_nil (star_ok hs2)) (star_ok hs)) (by rw [star_ok hs, star_ok hs2] <;> rfl) (star_ok hs2)).imp fun σ H R ⟨F, r, RR, o⟩ => ⟨F, r, RR, (Out.bind.mp o).mono fun x _ hx v F1 H1 e1 dp =>
    ⟨F1, r, RR.step e1, ((Out.bind.mp hx).later e1.hh).mono fun y _ hy u F2 H2 e2 dq => ?_⟩⟩
  cases x with
  | int i =>
    cases y with
    | int j =>
      cases dp
      cases dq
      have hx' : Out Z H (rngD i j) _ := hy
      have k := hx'.ok (nx_rng i j)
      cases q : rngD i j with
      | ok ds =>
        rw [q] at k
        obtain ⟨rfl, hb, hc⟩ := rngD_ok q
        exact ⟨i, j, rfl, hb, k _ F2 H2 (e1.trans e2) (by rw [rngL_len]; exact cap_line hc) (wk_rng i _)⟩
      | ex c => rw [q] at k; exact k.elim
      | no => rw [q] at k; exact k.elim
    | _ => exact hy.elim
  | _ => exact hy.elim
theorem TIf.p {f : Env → O (List PyData)} {tg : Expr} (h : PI X tg e (TIf Z f)) : PI X tg e (TIp Z f) := h.imp fun σ H R ⟨F, r, RR, o⟩ => ⟨F, r, RR, o.mono fun ds _ hd J F' H' e1 hl w => hd J F' H' e1 hl (w.early e1.fh)⟩
end
end HF

set_option Elab.async false
set_option linter.all false
set_option maxRecDepth 100000
set_option maxHeartbeats 4000000
/-! ### I, more: a tuple walked with its count -/
namespace HF
open PySem PySem.Spec PyProof.Rows L2
open Sem (wp)

/-- the new count over a thing that can be walked -/
theorem enm_new {u : Value} {ob : Obj} {Hh : Heap → Prop} (BB : Begins u ob Hh) : Meets (Builtin.«enumerate.__new__» ⟨[.type "enumerate", u], []⟩) (fun _ W z => Hh z.heap ∧ W (.ok (.ret (.ref (z.heap.push ob).objs.size))) { z with heap := (z.heap.push ob).push { cls := .type "enumerate", data := .fields #[.none, .bool false, .ref z.heap.objs.size, rawInt 0, .none, .none] } }) :=
  .of_wp fun P0 w0 A0 W z hz => by
    obtain ⟨hp, g, d, tk, os⟩ := z
    obtain ⟨ha, hb⟩ := hz
    have hsb := sub_enumerate
    have qi : ∀ {A1 : Around} {E1 : Value → Shared → Prop} {Q1 : Value → Shared → Prop}, Q1 (.ref hp.objs.size) ⟨hp.push ob, g, d, tk, os⟩ → wpAny (model P0 w0) A1 (pyIter u) Q1 E1 ⟨hp, g, d, tk, os⟩ := fun q => BB.iter P0 w0 _ _ ⟨hp, g, d, tk, os⟩ _ ha q
    wp_walk using qi
    refine wpAny_stack_any fun sk => wpAny_pure ?_
    split
    · rename_i cc _ _ _ _ _
      cases (cc == Value.type "enumerate") <;> (wp_walk using qi; exact ⟨_, rfl, hb⟩)
    · wp_walk using qi
      exact ⟨_, rfl, hb⟩
section
variable {P0 : Program} {w0 : World} {A0 : Around} {E1 : Value → Shared → Prop} {z : Shared}
theorem enm_call {a : Addr} {vs : Array Value} {Q1 : Value → Shared → Prop} (ht : z.heap.IsTuple a vs)
    (h : ∀ h1, IsEnum h1 (z.heap.objs.size + 1) z.heap.objs.size 0 .none → h1.IsTupleIter z.heap.objs.size a 0 → (∀ b o, z.heap.get? b = some o → h1.get? b = some o) → Q1 (.ref (z.heap.objs.size + 1)) { z with heap := h1 }) :
    wpAny (model P0 w0) A0 (call (.type "enumerate") [.ref a]) Q1 E1 z := by
  have BB := begins_tuple a vs
  refine callType_new F.called_enumerate (by decide) (F.typeCall_enumerate_1 _) (F.newCall_enumerate_1 _) (fun ob => F.args_object_init_2 ob _) F.entry_enumerate_new (enm_new BB) ⟨ht, ?_⟩
  have z1 : (z.heap.push { cls := .type "tuple_iterator", data := .fields #[.ref a, .int 0 0] }).objs.size = z.heap.objs.size + 1 := Heap.size_push ..
  show _ ∧ _
  rw [z1]
  have en : IsEnum ((z.heap.push { cls := .type "tuple_iterator", data := .fields #[.ref a, .int 0 0] }).push { cls := .type "enumerate", data := .fields #[.none, .bool false, .ref z.heap.objs.size, rawInt 0, .none, .none] }) (z.heap.objs.size + 1) z.heap.objs.size 0 .none := by
    have t := Heap.get?_push_size (z.heap.push { cls := .type "tuple_iterator", data := .fields #[.ref a, .int 0 0] }) (o := { cls := .type "enumerate", data := .fields #[.none, .bool false, .ref z.heap.objs.size, rawInt 0, .none, .none] }) rfl
    rw [z1] at t
    exact t
  exact ⟨⟨_, en, rfl⟩, h _ en ⟨_, Heap.get?_push_of_some _ (Heap.get?_push_size _ rfl), rfl, rfl⟩ fun b o q => Heap.get?_push_of_some _ (Heap.get?_push_of_some _ q)⟩
end
/-- the tuple at a, each item in a new pair with its count -/
def Itk (K : PySem.W.Frag) (a : Addr) : L2.It :=
  ⟨fun i H => ∃ (xs : List V) (x : V), SqT K H a xs ∧ xs[i]? = some x,
   fun i H v H' => ∃ T x, v = .ref T ∧ H T = none ∧ H' = upd H T (.tup [.int (i : Nat), x]) ∧ ∀ xs, SqT K H a xs → xs[i]? = some x,
   fun i H => ∃ xs : List V, SqT K H a xs ∧ xs.length = i⟩
theorem itk_turn {P : Program} {w : World} {K : PySem.W.Frag} {es : List Expr} {kk : Nat} {tpos : Pos} (a c it : Addr) :
    Turn P w K (.Tuple es kk tpos) (Itk K a) [c, it] c (fun i h => (∃ old, IsEnum h c it ((i : Nat) : Int) old) ∧ h.IsTupleIter it a i ∧ c ≠ it) where
  mem := by simp
  obj := fun i h st b hb => by
    obtain ⟨⟨old, he⟩, ⟨o, ho, hc, hd⟩, _⟩ := st
    have e' : b = c ∨ b = it := by simpa using hb
    rcases e' with rfl | rfl
    · exact ⟨_, he, fun v q => nomatch q⟩
    · exact ⟨o, ho, fun v q => by rw [hd] at q; cases q⟩
  keep := fun i h h' st k => by
    obtain ⟨⟨old, he⟩, hi, hne⟩ := st
    exact ⟨⟨old, k c (by simp) _ he⟩, hi.at fun o q => k it (by simp) o q, hne⟩
  item := by
    intro X hP hw hK hc i pins s σ H E I hf st hg
    subst hP hw hK
    obtain ⟨⟨old, he⟩, hit, hne⟩ := st
    obtain ⟨xs, x, hq, hx⟩ := hg
    obtain ⟨its, rv, p, hz⟩ := I.tuple hq
    obtain ⟨u, hu, ru⟩ := rv.get hx
    have p' : s.heap.IsTuple a its.toArray := p
    have hcl : c < s.heap.objs.size := Heap.lt_size he
    have hil : it < s.heap.objs.size := by
      obtain ⟨_, q, _⟩ := hit
      exact Heap.lt_size q
    have nca : c ≠ a := fun z => by
      obtain ⟨o, q1, q2, _⟩ := p'
      rw [← z] at q1
      have q3 := he.symm.trans q1
      cases q3
      have q4 : Value.type "enumerate" = Value.type "tuple" := q2
      exact absurd q4 (by decide)
    have nai : a ≠ it := fun z => by
      obtain ⟨o, q1, q2, _⟩ := p'
      obtain ⟨o2, q3, q4, _⟩ := id hit
      rw [z, q3] at q1
      cases q1
      rw [q2] at q4
      exact absurd q4 (by decide)
    have hi : i < its.toArray.size := by
      have q := (List.getElem?_eq_some_iff.mp hu).1
      simpa using q
    refine wpAny_pyNext_enum_itemD (Draws.tuple (prog := X.prog) (w := X.w) (A := X.A.in1) (show X.A.in1.handled = none from I.ok.hd hc) it a nai its.toArray) he ⟨hit, p'⟩ hi hne (by simp [hne, nca]) fun y h1 tk hy ho hst hT hsz hk => ?_
    have hy' : y = u := by
      have q : its[i]? = some y := by simpa using hy
      rw [hu] at q
      exact (Option.some.inj q).symm
    subst hy'
    refine ⟨_, rfl, wpAny_letOwnedTupleGo_enum (s := { s with heap := h1, toks := tk + 1 }) ho fun h2 he2 sb => ?_⟩
    have hT2 : h2.get? s.heap.objs.size = some { cls := .type "tuple", data := .seq #[.int i tk, y] } := (sb.2 _ (Nat.ne_of_gt hcl)).trans hT
    have new : ObjOk X.prog X.w (upd H s.heap.objs.size (.tup [.int (i : Nat), x])) h2 s.heap.objs.size (.tup [.int (i : Nat), x]) := ⟨by show 2 ≤ sizeLine; decide, [.int i tk, y], .cons ⟨_, rfl⟩ (.cons ru .nil), ⟨_, hT2, rfl, _, rfl⟩⟩
    have I1 : Inv X pins σ (upd H s.heap.objs.size (.tup [.int (i : Nat), x])) { s with heap := h2, toks := tk + 1 } :=
      I.turnedNew (ch := [c, it]) (fun b ob hb q => (sb.2 b (fun z => hb (by simp [z]))).trans (hk b ob (fun z => hb (by simp [z])) (fun z => hb (by simp [z])) q)) hf (Nat.le_refl _) new
    refine ⟨.ref s.heap.objs.size, _, I1, rfl, ⟨_, x, rfl, I.hok.fresh (Nat.le_refl _), rfl, fun ys hys => by rw [I.tuple_inj hys hq]; exact hx⟩, ⟨⟨y, ?_⟩, hst.1.at fun o q => (sb.2 it (Ne.symm hne)).trans q, hne⟩, fun b hb => ?_⟩
    · have e1 : ((i + 1 : Nat) : Int) = (i : Int) + 1 := by omega
      rw [e1]
      exact he2
    · have hb' : b < s.heap.objs.size := by
        have e' : b = c ∨ b = it := by simpa using hb
        rcases e' with rfl | rfl
        · exact hcl
        · exact hil
      rw [upd_ne (Nat.ne_of_lt hb')]
      exact (hf b hb).1
  done := by
    intro X hP hw hK hc i pins s σ H E I hf st hg
    subst hP hw hK
    obtain ⟨⟨old, he⟩, hit, hne⟩ := st
    obtain ⟨xs, hq, hx⟩ := hg
    obtain ⟨its, rv, p, hz⟩ := I.tuple hq
    have p' : s.heap.IsTuple a its.toArray := p
    obtain ⟨f0, f1, f2, f3, f4, f5⟩ := hf it (by simp)
    have hl := rv.length
    have nai : a ≠ it := fun z => by
      obtain ⟨o, q1, q2, _⟩ := p'
      obtain ⟨o2, q3, q4, _⟩ := id hit
      rw [z, q3] at q1
      cases q1
      rw [q2] at q4
      exact absurd q4 (by decide)
    have ei : i = its.toArray.size := by
      simp only [List.size_toArray]
      omega
    subst ei
    exact wpAny_pyNext_enum_endD (Draws.tuple (prog := X.prog) (w := X.w) (A := X.A.in1) (show X.A.in1.handled = none from I.ok.hd hc) it a nai its.toArray) he ⟨hit, p'⟩ fun h' eb => ⟨rfl, I.turned (t' := s.toks) (fun b o hb q => eb b o hb q) f0 f1 f3 f4 f5⟩
  self := fun A i s Q E st h => by
    obtain ⟨⟨_, he⟩, _⟩ := st
    exact wpAny_pyIter_enum he h
def iItk (K : PySem.W.Frag) (te : TE) : TI := fun σ H R => te σ H fun v H1 => ∃ a xs, [v] = [V.ref a] ∧ SqT K H1 a xs ∧ R (Itk K a) H1
theorem pi_itk {X : Cx} {e : Expr} {te : TE} {p pos tpos : Pos} {es : List Expr} {kk : Nat} (hg : Gl X "enumerate") (hm : X.mg "enumerate" = none) (hs : noStar e = true) (he : PE X e te) :
    PI X (.Tuple es kk tpos) (.Call (.Name "enumerate" p) [e] [] pos) (iItk X.K te) := by
  refine ⟨fun pins s σ H R I h => ?_⟩
  have ha : PA X [e] (tCons te tNil) := pa_cons he pa_nil (star_ok hs)
  refine Call_ (ld_blt I hg hm boot_enumerate (PyProof.Rows.callWith_type1 (thn (ha.run pos pins s σ H (fun vs H1 => ∃ a xs, vs = [V.ref a] ∧ SqT X.K H1 a xs ∧ R (Itk X.K a) H1) I h) fun us s1 ⟨vs, H1, I1, r1, q1⟩ => ?_) (star_ok hs) rfl))
  obtain ⟨a, xs, ex, hq, q⟩ := q1
  subst ex
  cases r1 with
  | cons r rr =>
    cases rr
    cases r
    obtain ⟨its, rv, p', hz⟩ := I1.tuple hq
    refine enm_call (show s1.heap.IsTuple a its.toArray from p') fun h1 hen hit hk => wpAny_pyIter_enum hen ?_
    have I2 : Inv X pins σ H1 { s1 with heap := h1 } := I1.kept (t' := s1.toks) hk
    refine ⟨s1.heap.objs.size + 1, [s1.heap.objs.size + 1, s1.heap.objs.size], _, _, H1, rfl, I2, itk_turn a (s1.heap.objs.size + 1) s1.heap.objs.size, ⟨⟨.none, hen⟩, hit, Nat.succ_ne_self _⟩, fun b hb => ?_, q⟩
    have hle : s1.heap.objs.size ≤ b := by
      have e' : b = s1.heap.objs.size + 1 ∨ b = s1.heap.objs.size := by simpa using hb
      rcases e' with rfl | rfl
      · exact Nat.le_add_right _ _
      · exact Nat.le_refl _
    exact I1.fpOk hle (I1.hok.fresh hle)
theorem enmL_get : ∀ (ds : List PyData) (k : Int) (i : Nat), (enmL k ds)[i]? = (ds[i]?).map fun d => .tuple [.int (k + i), d]
  | [], k, i => by simp [enmL]
  | d :: ds, k, 0 => by simp [enmL]
  | d :: ds, k, i + 1 => by
    simp only [enmL, List.getElem?_cons_succ, enmL_get ds (k + 1) i]
    have e : k + 1 + (i : Int) = k + ((i + 1 : Nat) : Int) := by omega
    rw [e]
theorem enmL_len : ∀ (ds : List PyData) (k : Int), (enmL k ds).length = ds.length
  | [], k => rfl
  | d :: ds, k => by simp only [enmL, List.length_cons, enmL_len ds (k + 1)]
theorem wk_itk {K : PySem.W.Frag} {F B : Hp} {a : Addr} {vs : List V} {ds : List PyData} (h : B a = some (.tup vs)) (hd : DpAll K F vs ds) : Wk K F B (Itk K a) (enmL 0 ds) := by
  intro H' s
  have q : SqT K H' a vs := SqT.of (s _ _ h)
  refine ⟨⟨vs, q, by rw [enmL_len, hd.len]⟩, fun i d hi => ?_⟩
  rw [enmL_get] at hi
  cases hdi : ds[i]? with
  | none => rw [hdi] at hi; cases hi
  | some d0 =>
    rw [hdi] at hi
    have hi' : d = .tuple [.int (i : Int), d0] := by
      have z := Option.some.inj hi
      rw [← z, Int.zero_add]
    subst hi'
    obtain ⟨v, h1, h2⟩ := hd.getD hdi
    refine ⟨⟨vs, v, q, h1⟩, fun x Hn y F' sf sh => ?_⟩
    obtain ⟨T, x0, rfl, hT, rfl, y⟩ := y
    have ex : x0 = v := Option.some.inj ((y vs q).symm.trans h1)
    subst ex
    have e2 := Ext.newF (o := .tup [.int (i : Nat), x0]) sh hT
    exact ⟨_, e2, .tup upd_same (.cons (.int _) (.cons (Dp.up (Dp.up h2 sf) e2.ff) .nil))⟩
theorem sI_itk {X : Cx} {Z : Fx} {e : Expr} {f : Env → O PyData} {p pos tpos : Pos} {es : List Expr} {kk : Nat} (hK : X.K = Z.K) (hg : Gl X "enumerate") (hm : X.mg "enumerate" = none) (hs : noStar e = true) (h : PE X e (TPv Z f)) :
    PI X (.Tuple es kk tpos) (.Call (.Name "enumerate" p) [e] [] pos) (TIp Z fun r => (f r).bind tupItems) := by
  refine ⟨fun pins s σ H R I hw => ?_⟩
  obtain ⟨F, r, RR, o⟩ := hw
  have o' := Out.bind.mp o
  cases q : f r with
  | no => rw [q] at o'; exact o'.elim
  | ex c =>
    rw [q] at o'
    refine (pi_itk (tpos := tpos) (es := es) (kk := kk) hg hm hs h).run pins s σ H R I ⟨F, r, RR, ?_⟩
    rw [q]
    exact o'
  | ok d =>
    rw [q] at o'
    cases d with
    | tuple ds =>
      refine wpAny_mono ((pi_itk (tpos := tpos) (es := es) (kk := kk) hg hm hs h).run pins s σ H (fun J H1 => ∃ F1 a vs, J = Itk X.K a ∧ Ext F H F1 H1 ∧ F1 a = some (.tup vs) ∧ DpAll Z.K F1 vs ds) I ⟨F, r, RR, ?_⟩) (fun v s1 h1 => thn h1 fun itv s2 h2 => ?_) fun _ _ z => z
      · rw [q]
        intro v F1 H1 e1 sh
        obtain ⟨a, vs, rfl, h0, h1, h2⟩ := sh.tuple e1.fh
        exact ⟨a, vs, rfl, SqT.of h1, F1, a, vs, rfl, e1, h0, h2⟩
      · obtain ⟨it, fp, tn, J, H2, e, I2, T, st, ff, F1, a, vs, rfl, e1, h1, h2⟩ := h2
        refine ⟨it, fp, tn, _, H2, e, I2, T, st, ff, o' _ F1 H2 e1 ?_ ?_⟩
        · rw [enmL_len, ← h2.len]
          exact inv_size I2 (.inr (e1.fh _ _ h1))
        · rw [hK]
          exact wk_itk (e1.fh _ _ h1) h2
    | _ => exact o'.elim
end HF

set_option Elab.async false
set_option linter.all false
set_option maxRecDepth 100000
set_option maxHeartbeats 4000000
/-! ### J: targets, comprehensions, dicts -/
namespace HF
open PySem PySem.Spec PyProof.Rows L2

section
variable {Z : Fx} {σ : L2.St} {r : Env} {F H : Hp}
theorem set_get {α : Type} (l : List α) (i j : Nat) (x : α) : (l.set i x)[j]? = if j = i then (if i < l.length then some x else none) else l[j]? := by
  by_cases h : j = i
  · subst h
    rw [if_pos rfl]
    by_cases hl : j < l.length
    · rw [if_pos hl, List.getElem?_set_self hl]
    · rw [if_neg hl, List.getElem?_eq_none (by simpa using hl)]
  · rw [if_neg h, List.getElem?_set_ne (Ne.symm h)]
/-- a slot gets a value that nothing else owns -/
theorem Rel.put {i : Nat} {v : V} {x : Res} (R : Rel Z σ r F H) (h : RepR Z.K Z.H0 F H v x) (hn : own x → ∀ (j : Nat) y a, j ≠ i → r[j]? = some (some y) → own y → v = .ref a → σ[j]? ≠ some (some (.ref a))) : Rel Z (σ.set i (some v)) (put r i x) F H := by
  rw [put_eq]
  refine ⟨R.ext, fun j y hj => ?_, fun j k y z a hjk hj hk oy oz ha => ?_, by rw [List.length_set, List.length_set]; exact R.len⟩
  · rw [set_get] at hj
    rw [set_get]
    split at hj
    · rename_i e
      rw [if_pos e]
      split at hj
      · rename_i hl
        cases hj
        rw [if_pos (by rw [R.len]; exact hl)]
        exact ⟨v, rfl, h⟩
      · cases hj
    · rename_i e
      rw [if_neg e]
      exact R.sl j y hj
  · rw [set_get] at hj hk ha ⊢
    by_cases ej : j = i
    · rw [if_pos ej] at hj ha
      have ek : k ≠ i := fun q => hjk (ej.trans q.symm)
      rw [if_neg ek] at hk ⊢
      split at hj
      · cases hj
        split at ha
        · have ha' : v = .ref a := by injection ha with q; injection q
          exact hn oy k z a ek hk oz ha'
        · cases ha
      · cases hj
    · rw [if_neg ej] at hj ha
      by_cases ek : k = i
      · rw [if_pos ek] at hk ⊢
        split at hk
        · cases hk
          split
          · intro q
            have q' : v = .ref a := by injection q with q; injection q
            exact hn oz j y a ej hj oy q' ha
          · simp
        · cases hk
      · rw [if_neg ek] at hk ⊢
        exact R.ap j k y z a hjk hj hk oy oz ha
theorem Rel.putV {i : Nat} {v : V} {d : PyData} (R : Rel Z σ r F H) (h : Dp Z.K F v d) : Rel Z (σ.set i (some v)) (HF.put r i (.v d)) F H := R.put (x := .v d) h fun o => o.elim
theorem Rel.unput {i : Nat} (R : Rel Z σ r F H) : Rel Z (σ.set i none) (unput r i) F H := by
  rw [unput_eq]
  refine ⟨R.ext, fun j y hj => ?_, fun j k y z a hjk hj hk oy oz ha => ?_, by rw [List.length_set, List.length_set]; exact R.len⟩
  · rw [set_get] at hj
    rw [set_get]
    split at hj
    · split at hj <;> cases hj
    · rename_i e
      rw [if_neg e]
      exact R.sl j y hj
  · rw [set_get] at hj hk ha ⊢
    split at hj
    · split at hj <;> cases hj
    · split at hk
      · split at hk <;> cases hk
      · rename_i ej ek
        rw [if_neg ej] at ha
        rw [if_neg ek]
        exact R.ap j k y z a hjk hj hk oy oz ha
theorem Rel.clr (R : Rel Z σ r F H) : ∀ is : List Nat, Rel Z (wipe σ is) (clr is r) F H
  | [] => R
  | i :: is => (Rel.clr R is).unput
theorem Rel.chg {E' : XK} (R : Rel Z σ r F H) : Rel { Z with E := E' } σ r F H := ⟨R.ext, R.sl, R.ap, R.len⟩
theorem Rel.unchg {E' : XK} (R : Rel { Z with E := E' } σ r F H) : Rel Z σ r F H := ⟨R.ext, R.sl, R.ap, R.len⟩

/-! wiped slots -/
theorem wipe_in (σ : L2.St) : ∀ (is : List Nat) (i : Nat), i ∈ is → (wipe σ is)[i]? = if i < σ.length then some none else none
  | [], i, h => by simp at h
  | j :: is, i, h => by
    show ((wipe σ is).set j none)[i]? = _
    rw [set_get, wipe_length]
    by_cases e : i = j
    · rw [if_pos e, e]
    · rw [if_neg e]
      exact wipe_in σ is i (by simpa [e] using h)
theorem wipe_set {σ : L2.St} {is : List Nat} {i : Nat} {y : Option V} (h : i ∈ is) : wipe (σ.set i y) is = wipe σ is := by
  apply List.ext_getElem?
  intro k
  by_cases hk : k ∈ is
  · rw [wipe_in _ _ _ hk, wipe_in _ _ _ hk, List.length_set]
  · rw [wipe_out hk, wipe_out hk, List.getElem?_set_ne (fun e : i = k => hk (e ▸ h))]
theorem wipe_wipe (σ : L2.St) (is : List Nat) : wipe (wipe σ is) is = wipe σ is := by
  apply List.ext_getElem?
  intro k
  by_cases hk : k ∈ is
  · rw [wipe_in _ _ _ hk, wipe_in _ _ _ hk, wipe_length]
  · rw [wipe_out hk]

/-! targets -/
def gNames : List Nat → TGs
  | [] => gNil
  | i :: is => gCons (gName i) (gNames is)
def gOf (K : PySem.W.Frag) : List Nat → TG
  | [i] => gName i
  | is => gTup K is.length (gNames is)
theorem names_ok {Q : L2.St → Hp → Prop} : ∀ (is : List Nat) (vs : List V) (ds : List PyData) (σ : L2.St) (r r' : Env), Rel Z σ r F H → DpAll Z.K F vs ds → bindL is ds r = .ok r' → (∀ σ', Rel Z σ' r' F H → (∀ js : List Nat, (∀ i ∈ is, i ∈ js) → wipe σ' js = wipe σ js) → Q σ' H) → gNames is vs σ H Q
  | [], [], [], σ, r, r', R, _, e, q => by
    cases e
    exact ⟨rfl, q σ R fun _ _ => rfl⟩
  | [], _ :: _, _ :: _, _, _, _, _, _, e, _ => by cases e
  | i :: is, [], [], _, _, _, _, _, e, _ => by cases e
  | i :: is, v :: vs, d :: ds, σ, r, r', R, .cons h1 h2, e, q => by
    refine ⟨v, vs, rfl, ?_⟩
    refine names_ok is vs ds _ _ r' (R.putV h1) h2 e fun σ' R' w => q σ' R' fun js hj => ?_
    rw [w js fun k hk => hj k (List.mem_cons_of_mem _ hk), wipe_set (hj i List.mem_cons_self)]
theorem bindL_len : ∀ (is : List Nat) (ds : List PyData) (r r' : Env), bindL is ds r = .ok r' → ds.length = is.length
  | [], [], _, _, _ => rfl
  | [], _ :: _, _, _, e => by cases e
  | _ :: _, [], _, _, e => by cases e
  | i :: is, d :: ds, r, r', e => by simp [bindL_len is ds _ r' e]
theorem gOf_ok {Q : L2.St → Hp → Prop} {tgt : List Nat} {v : V} {d : PyData} {r' : Env} (R : Rel Z σ r F H) (h : Dp Z.K F v d) (e : bindT tgt d r = .ok r')
    (q : ∀ σ', Rel Z σ' r' F H → wipe σ' tgt = wipe σ tgt → Q σ' H) : gOf Z.K tgt v σ H Q := by
  have tup : ∀ is : List Nat, (match d with | .tuple ds => bindL is ds r | _ => .no) = .ok r' → (∀ σ', Rel Z σ' r' F H → wipe σ' is = wipe σ is → Q σ' H) → gTup Z.K is.length (gNames is) v σ H Q := fun is e q => by
    cases d with
    | tuple ds =>
      cases h with
      | tup h1 h2 => exact ⟨_, _, rfl, SqT.of (R.fh _ _ h1), by rw [h2.len]; exact bindL_len is ds r r' e, names_ok is _ ds σ r r' R h2 e fun σ' R' w => q σ' R' (w is fun _ hi => hi)⟩
    | _ => cases e
  match tgt, e, q with
  | [i], e, q =>
    cases e
    exact q _ (R.putV h) (wipe_set (by simp))
  | [], e, q => exact tup [] e q
  | i :: j :: is, e, q => exact tup (i :: j :: is) e q
end

/-! comprehensions -/
section
variable {X : Cx} {Z : Fx}
theorem noex_ok {α : Type} {o : O α} {a : α} (h : o.noex = .ok a) : o = .ok a := by
  cases o with
  | ok b => exact h
  | ex c => cases h
  | no => cases h
def notSet (e : Expr) : Bool := match e with
  | .Set .. => false
  | _ => true
theorem lc_imp {own : List (Str × Nat)} {tgt : List Nat} {fi : Env → O (List PyData)} {fc : Env → O Bool} {fe : Env → O PyData} (hown : own.map (·.2) = tgt) (σ : L2.St) (H : Hp) (Q : VK)
    (h : TEv Z (fun r => (fi r).bind fun xs => (O.noex (compL tgt fc fe (clr tgt r) xs)).bind fun ds => .ok (.l ds)) σ H Q) : tLc (TIp Z fi) (gOf Z.K tgt) (TTv { Z with E := E0 } fc) (TDv { Z with E := E0 } fe) (own.map (·.2)) σ H Q := by
  obtain ⟨F, r, R, o⟩ := h
  rw [hown]
  refine ⟨F, r, R, (Out.bind.mp o).mono fun ds _ hd J F1 H1 e1 hlen w D hD => ?_⟩
  cases q : (compL tgt fc fe (clr tgt r) ds).noex with
  | ex c => cases q2 : compL tgt fc fe (clr tgt r) ds <;> rw [q2] at q <;> cases q
  | no => rw [q] at hd; exact hd.elim
  | ok tot =>
    rw [q] at hd
    have fin : ∀ v F' H', Ext F H F' H' → RepR Z.K H F' H' v (.l tot) → Q v H' := hd
    have ct := noex_ok q
    -- the invariant
    let W : Nat → Nat → Hp → Prop := fun i m H2 => m = ds.length - i ∧ i ≤ ds.length ∧ ∃ F2 acc res rest, Ext F1 H1 F2 H2 ∧ F2 D = none ∧ H2 D = some (.lst acc) ∧ DpAll Z.K F2 acc res ∧ acc.length ≤ i ∧ compL tgt fc fe (clr tgt r) (ds.drop i) = .ok rest ∧ tot = res ++ rest
    have fD : F1 D = none := Ext.pre e1.fh hD
    refine ⟨W, ⟨ds.length, by simp, Nat.zero_le _, F1, [], [], tot, Ext.new e1.fh hD, fD, upd_same, .nil, Nat.le_refl _, by simpa using ct, by simp⟩, ?_⟩
    rintro i m H2 ⟨rfl, hle, F2, acc, res, rest, e2, f2, h2, dp2, hl2, c2, t2⟩
    obtain ⟨ws, wg⟩ := w H2 e2.hh
    by_cases hlt : i < ds.length
    · have hdi : ds[i]? = some ds[i] := List.getElem?_eq_getElem hlt
      obtain ⟨hgo, hy⟩ := wg i ds[i] hdi
      refine .inr ⟨hgo, W (i + 1) (ds.length - (i + 1)), fun H' hW => ⟨_, by omega, hW⟩, fun x Hn hyl => ?_⟩
      obtain ⟨F3, e3, dx⟩ := hy x Hn hyl F2 e2.ff e2.fh
      have hdr : ds.drop i = ds[i] :: ds.drop (i + 1) := List.drop_eq_getElem_cons hlt
      rw [hdr] at c2
      simp only [compL] at c2
      cases qb : bindT tgt ds[i] (clr tgt r) with
      | no => rw [qb] at c2; cases c2
      | ex c => rw [qb] at c2; cases c2
      | ok r' =>
        rw [qb, O.ok_bind] at c2
        have Rn : Rel Z (wipe σ tgt) (clr tgt r) F3 Hn := (R.step ((e1.trans e2).trans e3)).clr tgt
        refine gOf_ok Rn dx qb fun σ2 R2 w2 => ⟨by rw [w2, wipe_wipe], ?_⟩
        cases qc : fc r' with
        | no => rw [qc] at c2; cases c2
        | ex c => rw [qc] at c2; cases c2
        | ok k =>
          rw [qc, O.ok_bind] at c2
          refine ⟨F3, r', R2.chg, ?_⟩
          rw [qc]
          intro F4 H4 e4
          have hDn : Hn D = some (.lst acc) := e3.hh _ _ h2
          have f3 : F3 D = none := (e3.nw D (by rw [h2]; simp)).trans f2
          have f4 : F4 D = none := (e4.nw D (by rw [hDn]; simp)).trans f3
          have hD4 : H4 D = some (.lst acc) := e4.hh _ _ hDn
          have e24 := e3.trans e4
          cases k with
          | false =>
            refine iteF ⟨rfl, hlt, F4, acc, res, rest, e2.trans e24, f4, hD4, DpAll.up dp2 e24.ff, by omega, c2, t2⟩
          | true =>
            refine iteT ?_
            cases qe : fe r' with
            | no => rw [qe] at c2; cases c2
            | ex c => rw [qe] at c2; cases c2
            | ok y =>
              rw [qe, O.ok_bind] at c2
              cases qr : compL tgt fc fe (clr tgt r) (ds.drop (i + 1)) with
              | no => rw [qr] at c2; cases c2
              | ex c => rw [qr] at c2; cases c2
              | ok rest' =>
                rw [qr] at c2
                cases c2
                refine ⟨F4, r', (R2.step e4).chg, ?_⟩
                rw [qe]
                intro v F5 H5 e5 dv
                have hD5 : H5 D = some (.lst acc) := e5.hh _ _ hD4
                have f5 : F5 D = none := (e5.nw D (by rw [hD4]; simp)).trans f4
                have e25 := e2.trans (e24.trans e5)
                refine ⟨acc, hD5, by omega, rfl, hlt, F5, acc ++ [v], res ++ [y], rest', ⟨e25.ff, fun a u ha => ?_, fun a u ha => ?_, e25.nw⟩, f5, upd_same, DpAll.append (DpAll.up dp2 (e24.trans e5).ff) (.cons dv .nil), by rw [List.length_append]; simp; omega, qr, by rw [t2]; simp⟩
                · rw [upd_ne (ne_of_none ha hD)]
                  exact e25.hh _ _ ha
                · rw [upd_ne (ne_of_none ha f5)]
                  exact e25.fh _ _ ha
    · have ei : i = ds.length := by omega
      subst ei
      refine .inl ⟨ws, fin _ F2 H2 (e1.trans e2) ⟨D, acc, rfl, Same.free e1.hh hD, f2, h2, ?_⟩⟩
      simp only [List.drop_length, compL] at c2
      cases c2
      rw [t2, List.append_nil]
      exact dp2
theorem sE_comp {elt tg iter : Expr} {ifs : List Expr} {scope : Scope} {own : List (Str × Nat)} {pos : Pos} {tgt : List Nat} {fi : Env → O (List PyData)} {fc : Env → O Bool} {fe : Env → O PyData}
    (hK : X.K = Z.K) (hc : X.calm = true) (hN : X.N.Nodup) (hown : own.map (·.2) = tgt) (hi : PI X tg iter (TIp Z fi)) (ok : BlkOk X.N X.env.scope scope own)
    (hg : ∀ (s : Shared) (H : Hp) (C : Addr) (cl : List (Str × Addr)) (fp : List Addr), PG (X.blk s H scope (compEnvC scope cl C X.env) fp) tg (gOf Z.K tgt))
    (ht : ∀ (s : Shared) (H : Hp) (C : Addr) (cl : List (Str × Addr)) (fp : List Addr), PTs (X.blk s H scope (compEnvC scope cl C X.env) fp) ifs (TTv { Z with E := E0 } fc))
    (he : ∀ (s : Shared) (H : Hp) (C : Addr) (cl : List (Str × Addr)) (fp : List Addr), PE (X.blk s H scope (compEnvC scope cl C X.env) fp) elt (TDv { Z with E := E0 } fe)) (hs : notSet iter = true) :
    PE X (.ListComp elt [⟨tg, iter, ifs, 0⟩] scope pos) (TEv Z fun r => (fi r).bind fun xs => (O.noex (compL tgt fc fe (clr tgt r) xs)).bind fun ds => .ok (.l ds)) := by
  exact (pe_lc hc hN hi ok hg ht he (by intro x; cases iter <;> first | rfl | cases hs)).imp (lc_imp hown)
end

/-! dicts -/
section
variable {X : Cx} {Z : Fx} {e : Expr} {pos : Pos}
theorem lookK_val {K : PySem.W.Frag} {F : Hp} {k : Int} : ∀ {ws : List (Key × V)} {kvs : List (Int × PyData)}, KVs K F ws kvs → (lookK kvs k = none ∧ valV ws (Sum.inl k) = none) ∨ ∃ d v, lookK kvs k = some d ∧ valV ws (Sum.inl k) = some v ∧ Dp K F v d
  | [], [], _ => .inl ⟨rfl, rfl⟩
  | (kw, v) :: ws, (j, d) :: kvs, .cons h t => by
    obtain ⟨h1, h2⟩ := h
    dsimp only at h1 h2
    subst h1
    simp only [lookK]
    by_cases e : j = k
    · subst e
      rw [if_pos rfl]
      exact .inr ⟨d, v, rfl, valV_pos rfl, h2⟩
    · rw [if_neg e]
      have ne : valV ((Sum.inl j, v) :: ws) (Sum.inl k : Key) = valV ws (Sum.inl k) := by
        unfold valV
        rw [List.find?_cons]
        have : decide ((Sum.inl j : Key) = Sum.inl k) = false := decide_eq_false fun q => e (Sum.inl.inj q)
        rw [this]
      rw [ne]
      exact lookK_val t
theorem dget_of {Z : Fx} {σ : L2.St} {r : Env} {F H : Hp} {i : Nat} {kvs : List (Int × PyData)} {k : Int} (R : Rel Z σ r F H) (h : nth r i = some (.k kvs)) : ∃ a o, σ[i]? = some (some (.ref a)) ∧ IsD H a ∧ DGet H a (.int k) o ∧ o.isSome = (lookK kvs k).isSome ∧ ∀ v, o = some v → ∃ d, lookK kvs k = some d ∧ Dp Z.K F v d := by
  obtain ⟨v, h1, h2⟩ := R.sl i _ ((nth_iff r i _).mp h)
  obtain ⟨a, ws, rfl, _, _, h3, h4⟩ := h2
  refine ⟨a, _, h1, .inl ⟨ws, .inl h3⟩, DGet.k (k := Sum.inl k) h3, ?_⟩
  rcases lookK_val (k := k) h4 with ⟨q1, q2⟩ | ⟨d, v, q1, q2, q3⟩
  · rw [q1, q2]
    exact ⟨rfl, fun v e => by cases e⟩
  · rw [q1, q2]
    refine ⟨rfl, fun v' e => ?_⟩
    cases e
    exact ⟨d, rfl, q3⟩
/-- the rest behind a key that is a whole number -/
theorem key_then {fe : Env → O Res} {g : Env → Int → O Res} {σ : L2.St} {H : Hp} {Q : VK} {k : V → Hp → Prop} (h : TEv Z (fun r => (dat (fe r)).bind fun x => (toI x).bind fun j => g r j) σ H Q)
    (q : ∀ r F F1 H1 j, Rel Z σ r F1 H1 → Ext F H F1 H1 → Out Z H (g r j) (fun x => ∀ v F' H', Ext F H F' H' → RepR Z.K H F' H' v x → Q v H') → k (.int j) H1) : TDv Z (fun r => dat (fe r)) σ H k := by
  obtain ⟨F, r, R, o⟩ := h
  refine ⟨F, r, R, (Out.bind.mp o).mono fun x _ hx v F1 H1 e1 dp => ?_⟩
  cases x with
  | int j =>
    cases dp
    exact q r F F1 H1 j (R.step e1) e1 hx
  | _ => exact hx.elim
theorem sE_kin {neg : Bool} {i : Nat} {x : Str} {p : Pos} {fe : Env → O Res} (hu : X.A.units + 1 < cLine) (hN : X.N[i]? = some x) (hv : Vis X.env.scope x) (hd : (x == ("__debug__" : Str)) = false) (hcd : (x == ("__classdict__" : Str)) = false) (he : PE X e (TEv Z fe)) :
    PC X (if neg then .NotIn else .In) e (.Name x p) (fun σ H Q => TEv Z (fun r => (dat (fe r)).bind fun x => (toI x).bind fun j => match nth r i with
      | some (.k kvs) => .ok (.v (.bool (if neg then !(lookK kvs j).isSome else (lookK kvs j).isSome)))
      | _ => .no) σ H Q) := by
  have fin : ∀ {σ : L2.St} {H : Hp} {Q : VK} (b : Bool), TEv Z (fun r => (dat (fe r)).bind fun x => (toI x).bind fun j => match nth r i with
      | some (.k kvs) => .ok (.v (.bool (if b then !(lookK kvs j).isSome else (lookK kvs j).isSome)))
      | _ => .no) σ H Q → TDv Z (fun r => dat (fe r)) σ H fun y H1 => tVar i σ H1 fun x H2 => ∃ a o, x = .ref a ∧ DGet H2 a y o ∧ Q (.bl (if b then !o.isSome else o.isSome)) H2 := by
    intro σ H Q b h
    refine key_then h fun r F F1 H1 j R1 e1 o => ?_
    cases q : nth r i with
    | none => rw [q] at o; exact o.elim
    | some y =>
      cases y with
      | k kvs =>
        rw [q] at o
        obtain ⟨a, ov, s1, _, s3, s4, _⟩ := dget_of (k := j) R1 q
        refine ⟨_, s1, a, ov, rfl, s3, ?_⟩
        rw [s4]
        exact o _ F1 H1 e1 (.bl _)
      | v _ => rw [q] at o; exact o.elim
      | l _ => rw [q] at o; exact o.elim
  cases neg with
  | true => exact ⟨fun pins s σ H Q I h => (pc_dnotin hu (toD he) (pe_var hN hv hd hcd)).run pins s σ H Q I (fin true h)⟩
  | false => exact ⟨fun pins s σ H Q I h => (pc_din hu (toD he) (pe_var hN hv hd hcd)).run pins s σ H Q I (fin false h)⟩
theorem pc_pe {op : CmpOp} {a b : Expr} {f : Env → O Res} (h : PC X op a b (TEv Z f)) (hm : behindInMarks op b = false) : PE X (.Compare a [op] [b] pos) (TEv Z f) := pe_cmp h hm
theorem pc_pt {op : CmpOp} {a b : Expr} {f : Env → O Res} (h : PC X op a b (TEv Z f)) (hm : behindInMarks op b = false) : PT X (.Compare a [op] [b] pos) (TTv Z fun r => tst (f r)) := (pt_cmp h hm).imp fun σ H Q q => toT q
theorem sE_kix {i : Nat} {x : Str} {p : Pos} {fe : Env → O Res} (hu : X.A.units + 1 < cLine) (hN : X.N[i]? = some x) (hv : Vis X.env.scope x) (hd : (x == ("__debug__" : Str)) = false) (hcd : (x == ("__classdict__" : Str)) = false) (hm : (match e with | .Slice .. => false | _ => true) = true) (he : PE X e (TEv Z fe)) :
    PE X (.Subscript (.Name x p) e pos) (TEv Z fun r => match nth r i with
      | some (.k kvs) => (dat (fe r)).bind fun x => (toI x).bind fun j => (match lookK kvs j with
        | some d => .ok (.v d)
        | none => .no)
      | _ => .no) := by
  refine (pe_dget hu (pe_var hN hv hd hcd) (toD he) (plain_ix hm)).imp fun σ H Q h => ?_
  obtain ⟨F, r, R, o⟩ := h
  dsimp only at o
  cases q : nth r i with
  | none => rw [q] at o; exact o.elim
  | some y =>
    cases y with
    | v _ => rw [q] at o; exact o.elim
    | l _ => rw [q] at o; exact o.elim
    | k kvs =>
      rw [q] at o
      obtain ⟨a0, _, s1, _⟩ := dget_of (k := 0) R q
      refine ⟨_, s1, F, r, R, (Out.bind.mp o).mono fun d _ hd' v F1 H1 e1 dp => ?_⟩
      cases d with
      | int j =>
        cases dp
        obtain ⟨a, ov, t1, _, t3, t4, t5⟩ := dget_of (k := j) (R.step e1) q
        rw [s1] at t1
        cases t1
        have hd2 : Out Z H (match lookK kvs j with | some d => (.ok (.v d) : O Res) | none => .no) fun x => ∀ v F' H', Ext F H F' H' → RepR Z.K H F' H' v x → Q v H' := hd'
        cases ql : lookK kvs j with
        | none => rw [ql] at hd2; exact hd2.elim
        | some d =>
          rw [ql] at hd2 t4
          cases ov with
          | none => cases t4
          | some w =>
            obtain ⟨d', z1, z2⟩ := t5 w rfl
            rw [ql] at z1
            cases z1
            exact ⟨_, w, rfl, t3, hd2 w F1 H1 e1 z2⟩
      | _ => exact hd'.elim
theorem sE_kget {i : Nat} {x : Str} {p apos : Pos} {fe : Env → O Res} (hu : X.A.units + 1 < cLine) (hN : X.N[i]? = some x) (hv : Vis X.env.scope x) (hd : (x == ("__debug__" : Str)) = false) (hcd : (x == ("__classdict__" : Str)) = false) (hs : noStar e = true) (hl : (apos.endLine == pos.line) = true) (he : PE X e (TEv Z fe)) :
    PE X (.Call (.Attribute (.Name x p) "get" apos) [e] [] pos) (TEv Z fun r => match nth r i with
      | some (.k kvs) => (dat (fe r)).bind fun x => (toI x).bind fun j => .ok (.v ((lookK kvs j).getD .none))
      | _ => .no) := by
  have tr : backTo pos (starEach [e] X.env) = [(false, eval e X.env)] := by rw [star_ok hs] <;> rfl
  refine (pe_dget1 hu (pe_var hN hv hd hcd) (toD he) ⟨rfl, by rw [tr] <;> rfl, hl, tr⟩).imp fun σ H Q h => ?_
  obtain ⟨F, r, R, o⟩ := h
  dsimp only at o
  cases q : nth r i with
  | none => rw [q] at o; exact o.elim
  | some y =>
    cases y with
    | v _ => rw [q] at o; exact o.elim
    | l _ => rw [q] at o; exact o.elim
    | k kvs =>
      rw [q] at o
      obtain ⟨a0, _, s1, s2, _⟩ := dget_of (k := 0) R q
      refine ⟨_, s1, a0, rfl, s2, F, r, R, (Out.bind.mp o).mono fun d _ hd' v F1 H1 e1 dp => ?_⟩
      cases d with
      | int j =>
        cases dp
        obtain ⟨a, ov, t1, _, t3, t4, t5⟩ := dget_of (k := j) (R.step e1) q
        rw [s1] at t1
        cases t1
        refine ⟨ov, t3, ?_⟩
        have hd2 : ∀ v F' H', Ext F H F' H' → RepR Z.K H F' H' v (.v ((lookK kvs j).getD .none)) → Q v H' := hd'
        cases ov with
        | none =>
          cases ql : lookK kvs j with
          | some d => rw [ql] at t4; cases t4
          | none =>
            rw [ql] at hd2
            exact hd2 _ F1 H1 e1 .non
        | some w =>
          obtain ⟨d', z1, z2⟩ := t5 w rfl
          rw [z1] at hd2
          exact hd2 _ F1 H1 e1 z2
      | _ => exact hd'.elim
end
end HF

set_option Elab.async false
set_option linter.all false
set_option maxRecDepth 100000
set_option maxHeartbeats 8000000
/-! ### K: does a small text match the syntax; expressions are told rightly -/
namespace HF
open PySem PySem.Spec PyProof.Rows L2

def bnames : List Str := ["len", "sorted", "tuple", "list", "min", "max", "abs", "int", "sum", "all", "any", "set", "range", "enumerate", "isinstance", "bool", "str", "zip"]
structure Good (X : Cx) (Z : Fx) (N fs gs : List Str) (sc : Scope) (cl : Nat → List Res → O Res) (G : List PyData) (k : Nat) : Prop where
  n : X.N = N
  nd : N.Nodup
  s : X.env.scope = sc
  calm : X.calm = true
  kk : X.K = Z.K
  room : Room k X.A
  blt : ∀ x ∈ bnames, X.mg x = none
  con : ∀ (i : Nat) x d, x ≠ ("" : Str) → gs[i]? = some x → G[i]? = some d → ∃ v u, X.mg x = some u ∧ RelV v u ∧ ∀ F, Dp Z.K F v d
  fn : ∀ (f : Nat) x, x ≠ ("" : Str) → fs[f]? = some x → ∃ a fd ps, X.mg x = some (.ref a) ∧ PySem.W.keepIn X.K (.ref a) = true ∧ Binds X.K fd ps [] ∧ FnOk X.prog X.w X.K X.mg X.base (L2.CX X.prog X.w) k a fd ps (spF Z.K Z.cls ps.length (cl f)) ∧ ∀ as, cl f as ≠ .no → as.length = ps.length
  pass : Passes (L2.CX X.prog X.w) X Z.E

def isGl (sc : Scope) (x : Str) : Bool := decide (sc.names.lookup x = some .globalImplicit)
def isVis (sc : Scope) (x : Str) : Bool := match sc.names.lookup x with
  | some .local => true
  | some .cell => true
  | some .free => true
  | _ => false
def isLoc (sc : Scope) (x : Str) : Bool := match sc.names.lookup x with
  | some .local => true
  | some .cell => true
  | _ => false
def okName (x : Str) : Bool := !(x == ("__debug__" : Str)) && !(x == ("__classdict__" : Str)) && !(x == ("__name__" : Str)) && !(x == ("" : Str))
def notSlice (e : Expr) : Bool := match e with
  | .Slice .. => false
  | _ => true
def tstOk (e : Expr) : Bool := match e with
  | .IfExp .. => false
  | _ => true
def constOk (c : Const) (d : PyData) : Bool := match c, d with
  | .int i, .int j => decide (i = j)
  | .bool a, .bool b => a == b
  | .none, .none => true
  | .str x, .str y => decide (x = y)
  | _, _ => false
/-- a built-in of one argument by its name; a class -/
def b1F : B1 → Option String
  | .len => some "len"
  | .sorted => some "sorted"
  | .min => some "min"
  | .max => some "max"
  | .abs => some "abs"
  | .sum => some "sum"
  | .all => some "all"
  | .any => some "any"
  | _ => none
def b1T : B1 → Option String
  | .tuple => some "tuple"
  | .list => some "list"
  | .int => some "int"
  | _ => none
def b1N (b : B1) : Option String := match b1F b with
  | some s => some s
  | none => b1T b
def nameIs (N : List Str) (i : Nat) (x : Str) : Bool := decide (N[i]? = some x)
def ownOf (N : List Str) (tgt : List Nat) : List (Str × Nat) := tgt.map fun i => (N.getD i "", i)
/-- the names of a target, in a comprehension's own scope -/
def tgtNames (N : List Str) (scope : Scope) : List Nat → List Expr → Bool
  | [], [] => true
  | i :: is, .Name x _ :: es => nameIs N i x && isLoc scope x && tgtNames N scope is es
  | _, _ => false
def tgtOk (N : List Str) (scope : Scope) (tgt : List Nat) (e : Expr) : Bool := match tgt, e with
  | [i], .Name x _ => nameIs N i x && isLoc scope x
  | i :: j :: is, .Tuple es _ _ => tgtNames N scope (i :: j :: is) es
  | _, _ => false
def noneC : E → Bool
  | .cst .none => true
  | _ => false
def isRng : E → Bool
  | .rng1 _ => true
  | .rng2 _ _ => true
  | _ => false
def isEnm : E → Bool
  | .enm _ => true
  | _ => false
def isTup : Expr → Bool
  | .Tuple _ _ _ => true
  | _ => false
def trueC : E → Bool
  | .cst (.bool true) => true
  | _ => false
section
variable (N fs gs : List Str)
mutual
def chk : E → Scope → Expr → Bool
  | .var i, sc, e => (match e with
    | .Name x _ => nameIs N i x && isVis sc x && okName x
    | _ => false)
  | .cst d, _, e => (match e with
    | .Constant c _ _ => constOk c d
    | _ => false)
  | .glb k, sc, e => (match e with
    | .Name x _ => nameIs gs k x && isGl sc x && okName x
    | _ => false)
  | .bin op a b, sc, e => (match e with
    | .BinOp l o r _ => decide (o = bopOf op) && chk a sc l && chk b sc r
    | _ => false)
  | .neg a, sc, e => (match e with
    | .UnaryOp .USub x _ => chk a sc x
    | _ => false)
  | .cmp op a b, sc, e => (match e with
    | .Compare l [o] [r] _ => decide (o = copOf op) && notSet r && chk a sc l && chk b sc r
    | _ => false)
  | .chn o1 o2 a b c, sc, e => (match e with
    | .Compare l [p1, p2] [m, r] _ => decide (p1 = copOf o1) && decide (p2 = copOf o2) && notSet r && chk a sc l && chk b sc m && chk c sc r
    | _ => false)
  | .bo isAnd es, sc, e => (match e with
    | .BoolOp op vs _ => decide (op = if isAnd then .And else .Or) && chkB es sc vs
    | _ => false)
  | .nt a, sc, e => (match e with
    | .UnaryOp .Not x _ => tstOk x && chk a sc x
    | _ => false)
  | .ite c a b, sc, e => (match e with
    | .IfExp t x y _ => tstOk t && chk c sc t && chk a sc x && chk b sc y
    | _ => false)
  | .tup es, sc, e => (match e with
    | .Tuple l _ _ => decide (l.length ≤ 1000) && chkEs es sc l
    | _ => false)
  | .lst es, sc, e => (match e with
    | .List l _ => decide (l.length ≤ 1000) && chkEs es sc l
    | _ => false)
  | .ix a b, sc, e => (match e with
    | .Subscript x i _ => notSlice i && chk a sc x && chk b sc i
    | _ => false)
  | .slc a lo hi, sc, e => (match e with
    | .Subscript x (.Slice l h none _) _ => chk a sc x && (match l with
        | none => noneC lo
        | some y => !noneC lo && chk lo sc y) && (match h with
        | none => noneC hi
        | some y => !noneC hi && chk hi sc y)
    | _ => false)
  | .call f es, sc, e => (match e with
    | .Call (.Name x _) (a :: as) [] _ => nameIs fs f x && isGl sc x && okName x && (a :: as).all noStar && chkEs es sc (a :: as)
    | _ => false)
  | .b1 b a, sc, e => (match e with
    | .Call (.Name x _) [y] [] _ => if isRng a then isGl sc x && (decide (b1T b = some "list") && decide (x = ("list" : Str)) || decide (b1T b = some "tuple") && decide (x = ("tuple" : Str))) && chk a sc y
      else (match b with
        | .sset => (match y with
          | .Call (.Name z _) [u] [] _ => decide (x = ("sorted" : Str)) && isGl sc x && decide (z = ("set" : Str)) && isGl sc z && noStar u && chk a sc u
          | _ => false)
        | .lset => (match y with
          | .Call (.Name z _) [u] [] _ => decide (x = ("len" : Str)) && isGl sc x && decide (z = ("set" : Str)) && isGl sc z && noStar u && chk a sc u
          | _ => false)
        | b => (match b1N b with
          | some s => decide (x = PySem.Str.ofString s) && isGl sc x && noStar y && chk a sc y
          | none => false))
    | _ => false)
  | .b2 isMax a b, sc, e => (match e with
    | .Call (.Name x _) [l, r] [] _ => decide (x = if isMax then ("max" : Str) else ("min" : Str)) && isGl sc x && noStar l && noStar r && chk a sc l && chk b sc r
    | _ => false)
  | .isi t a, sc, e => (match e with
    | .Call (.Name x _) [l, .Name y _] [] _ => decide (x = ("isinstance" : Str)) && isGl sc x && decide (y = PySem.Str.ofString (tyN t)) && isGl sc y && noStar l && chk a sc l
    | _ => false)
  | .comp elt tgt src cond, sc, e => (match e with
    | .ListComp el [⟨tg, iter, ifs, as⟩] scope _ => decide (as = 0) && blkC N sc scope (ownOf N tgt) && tgtOk N scope tgt tg && notSet iter && chk elt (relS scope sc) el &&
        (match ifs with
          | [] => trueC cond
          | [c] => tstOk c && chk cond (relS scope sc) c
          | _ => false) &&
        (!isEnm src || isTup tg) && chk src sc iter
    | _ => false)
  | .rng1 a, sc, e => (match e with
    | .Call (.Name z _) [u] [] _ => decide (z = ("range" : Str)) && isGl sc z && noStar u && chk a sc u
    | _ => false)
  | .rng2 a b, sc, e => (match e with
    | .Call (.Name z _) [u, v] [] _ => decide (z = ("range" : Str)) && isGl sc z && noStar u && noStar v && chk a sc u && chk b sc v
    | _ => false)
  | .enm a, sc, e => (match e with
    | .Call (.Name z _) [u] [] _ => decide (z = ("enumerate" : Str)) && isGl sc z && noStar u && chk a sc u
    | _ => false)
  | .kin neg i a, sc, e => (match e with
    | .Compare l [o] [.Name x _] _ => decide (o = if neg then .NotIn else .In) && nameIs N i x && isVis sc x && okName x && chk a sc l
    | _ => false)
  | .kget i a, sc, e => (match e with
    | .Call (.Attribute (.Name x _) m apos) [y] [] pos => decide (m = ("get" : Str)) && (apos.endLine == pos.line) && nameIs N i x && isVis sc x && okName x && noStar y && chk a sc y
    | _ => false)
  | .kix i a, sc, e => (match e with
    | .Subscript (.Name x _) y _ => notSlice y && nameIs N i x && isVis sc x && okName x && chk a sc y
    | _ => false)
def chkEs : Es → Scope → List Expr → Bool
  | .nil, _, l => (match l with
    | [] => true
    | _ => false)
  | .cons a es, sc, l => (match l with
    | e :: r => noStar e && chk a sc e && chkEs es sc r
    | [] => false)
def chkB : Es → Scope → List Expr → Bool
  | .nil, _, _ => false
  | .cons a es, sc, l => (match l with
    | e :: r => tstOk e && chk a sc e && (match es with
      | .nil => r.isEmpty
      | es => chkB es sc r)
    | [] => false)
end
end

theorem evs_len (cl : Nat → List Res → O Res) (G : List PyData) {N fs gs : List Str} {sc : Scope} : ∀ (es : Es) (l : List Expr) (r : Env) (ds : List PyData), chkEs N fs gs es sc l = true → evs cl G es r = .ok ds → ds.length = l.length
  | .nil, l, r, ds, h, e => by
    cases l with
    | nil =>
      simp only [evs] at e
      cases e
      rfl
    | cons _ _ => cases h
  | .cons a es, l, r, ds, h, e => by
    cases l with
    | nil => cases h
    | cons x l =>
      simp only [chkEs, Bool.and_eq_true] at h
      simp only [evs] at e
      cases q : dat (ev cl G a r) with
      | no => rw [q] at e; cases e
      | ex c => rw [q] at e; cases e
      | ok d =>
        rw [q, O.ok_bind] at e
        cases q2 : evs cl G es r with
        | no => rw [q2] at e; cases e
        | ex c => rw [q2] at e; cases e
        | ok ds' =>
          rw [q2] at e
          cases e
          simp [evs_len cl G es l r ds' h.2 q2]

section
variable {X : Cx} {Z : Fx} {N fs gs : List Str} {sc : Scope} {cl : Nat → List Res → O Res} {G : List PyData} {k : Nat}
theorem vis_of {x : Str} (h : isVis sc x = true) : Vis sc x := by
  unfold isVis at h
  unfold Vis
  split at h
  · exact .inl (by assumption)
  · exact .inr (.inl (by assumption))
  · exact .inr (.inr (by assumption))
  · cases h
theorem loc_of {x : Str} (h : isLoc sc x = true) : L2.Loc sc x := by
  unfold isLoc at h
  unfold L2.Loc
  split at h
  · exact .inl (by assumption)
  · exact .inr (by assumption)
  · cases h
theorem Good.gl {x : Str} (g : Good X Z N fs gs sc cl G k) (h : isGl sc x = true) : Gl X x := by
  have q : sc.names.lookup x = some .globalImplicit := of_decide_eq_true h
  rw [← g.s] at q
  exact q
theorem Good.vis {x : Str} (g : Good X Z N fs gs sc cl G k) (h : isVis sc x = true) : Vis X.env.scope x := by rw [g.s]; exact vis_of h
theorem Good.nm {i : Nat} {x : Str} (g : Good X Z N fs gs sc cl G k) (h : nameIs N i x = true) : X.N[i]? = some x := by rw [g.n]; exact of_decide_eq_true h
theorem ok1 {x : Str} (h : okName x = true) : (x == ("__debug__" : Str)) = false := by
  unfold okName at h
  simp only [Bool.and_eq_true, Bool.not_eq_true'] at h
  exact h.1.1.1
theorem ok2 {x : Str} (h : okName x = true) : (x == ("__classdict__" : Str)) = false := by
  unfold okName at h
  simp only [Bool.and_eq_true, Bool.not_eq_true'] at h
  exact h.1.1.2
theorem ok3 {x : Str} (h : okName x = true) : x ≠ "__name__" := by
  unfold okName at h
  simp only [Bool.and_eq_true, Bool.not_eq_true'] at h
  exact fun e => by
    have := h.1.2
    rw [e] at this
    simp at this
theorem ok4 {x : Str} (h : okName x = true) : x ≠ "" := by
  unfold okName at h
  simp only [Bool.and_eq_true, Bool.not_eq_true'] at h
  exact fun e => by
    have := h.2
    rw [e] at this
    simp at this
theorem Good.u65 (g : Good X Z N fs gs sc cl G k) : X.A.units + 65 < cLine := by have := g.room.un; omega
theorem Good.u64 (g : Good X Z N fs gs sc cl G k) : X.A.units + 64 < cLine := by have := g.room.un; omega
theorem Good.u1 (g : Good X Z N fs gs sc cl G k) : X.A.units + 1 < cLine := by have := g.room.un; omega
/-- within a comprehension -/
theorem Good.blk (g : Good X Z N fs gs sc cl G k) (s : Shared) (H : Hp) (scope : Scope) (C : Addr) (cs : List (Str × Addr)) (fp : List Addr) :
    Good (X.blk s H scope (compEnvC scope cs C X.env) fp) { Z with E := E0 } N fs gs (relS scope sc) cl G k :=
  ⟨g.n, g.nd, by rw [← g.s] <;> rfl, g.calm, g.kk, g.room, g.blt, g.con, g.fn, passL⟩
end
end HF

set_option Elab.async false
set_option linter.all false
set_option maxRecDepth 100000
set_option maxHeartbeats 8000000
/-! ### L: every expression that matches is told rightly -/
namespace HF
open PySem PySem.Spec PyProof.Rows L2

def plainHead (e : Expr) : Bool := match e with
  | .UnaryOp .Not _ _ => false
  | .BoolOp .. => false
  | .IfExp .. => false
  | .Compare .. => false
  | _ => true
section
variable {X : Cx} {Z : Fx} {e : Expr}
theorem isTrue_plainHead (h : plainHead e = true) (whole : Sem Value) : isTrue e X.env whole = (do let v ← whole; standAt e.pos; holding [v] (truthy v)) := by
  cases e with
  | UnaryOp op a p => cases op <;> first | rfl | cases h
  | BoolOp _ _ _ => cases h
  | IfExp _ _ _ _ => cases h
  | Compare _ _ _ _ => cases h
  | _ => rfl
theorem both {f : Env → O Res} (h : plainHead e = true) (p : PE X e (TEv Z f)) : PE X e (TEv Z f) ∧ (tstOk e = true → PT X e (TTv Z fun r => tst (f r))) := ⟨p, fun _ => sT_val p (isTrue_plainHead h)⟩
theorem PE.cg {f g : Env → O Res} (h : ∀ r, f r = g r) (p : PE X e (TEv Z f)) : PE X e (TEv Z g) := by
  have q : f = g := funext h
  rw [← q]
  exact p
theorem PT.cg {f g : Env → O Bool} (h : ∀ r, f r = g r) (p : PT X e (TTv Z f)) : PT X e (TTv Z g) := by
  have q : f = g := funext h
  rw [← q]
  exact p
theorem tst_bind {α : Type} (o : O α) (f : α → O Res) : tst (o.bind f) = o.bind fun a => tst (f a) := by
  cases o <;> rfl
end
section
variable {N fs gs : List Str} {cl : Nat → List Res → O Res} {G : List PyData} {k : Nat}
theorem pkOf {X : Cx} {Z : Fx} {sc : Scope} {e : Expr} (g : Good X Z N fs gs sc cl G k) (a : E) (h : chk N fs gs a sc e = true) (p : PE X e (TEv Z (ev cl G a))) : PE X e (TPv Z fun r => pk a (ev cl G a r) r) := by
  cases a with
  | var i =>
    simp only [chk] at h
    split at h
    · simp only [Bool.and_eq_true] at h
      exact sP_var (g.nm h.1.1) (g.vis h.1.2) (ok1 h.2) (ok2 h.2)
    · cases h
  | _ => exact toP (toD p)
/-- a slice's part -/
theorem partOf {X : Cx} {Z : Fx} {e : Expr} (a : E) (hn : noneC a = false) (p : PE X e (TEv Z (ev cl G a))) : PO X (some e) (TOv Z fun r => part a (ev cl G a r)) := by
  have q : (fun r => part a (ev cl G a r)) = fun r => (dat (ev cl G a r)).bind fun d => (toI d).bind fun i => .ok (.int i) := by
    funext r
    cases a with
    | cst d => cases d <;> first | rfl | cases hn
    | _ => rfl
  rw [q]
  exact sO_some p
theorem partNone {X : Cx} {Z : Fx} (a : E) (hn : noneC a = true) : PO X none (TOv Z fun r => part a (ev cl G a r)) := by
  have q : (fun r : Env => part a (ev cl G a r)) = fun _ => .ok .none := by
    funext r
    cases a with
    | cst d => cases d <;> first | rfl | cases hn
    | _ => cases hn
  rw [q]
  exact sO_none
theorem part_opt (a : E) (x : O Res) (d : PyData) (h : part a x = .ok d) : ∃ o, optI d = .ok o := by
  have q : part a x = .ok .none ∨ part a x = (dat x).bind fun d => (toI d).bind fun i => .ok (.int i) := by
    cases a with
    | cst d => cases d <;> first | exact .inl rfl | exact .inr rfl
    | _ => exact .inr rfl
  rcases q with q | q
  · rw [q] at h
    cases h
    exact ⟨_, rfl⟩
  · rw [q] at h
    cases q2 : dat x with
    | ok y =>
      rw [q2] at h
      cases y with
      | int i =>
        cases h
        exact ⟨_, rfl⟩
      | _ => cases h
    | ex c => rw [q2] at h; cases h
    | no => rw [q2] at h; cases h
/-- targets -/
theorem pgsOf {X : Cx} {scope : Scope} (nd : X.N.Nodup) (hN : X.N = N) (hs : ∀ x, isLoc scope x = true → L2.Loc X.env.scope x ∧ (X.fn x = true ∨ X.env.scope.names.lookup x = some .local)) : ∀ (is : List Nat) (es : List Expr), tgtNames N scope is es = true → PGs X es (gNames is) ∧ (assignEach es X.env).length = is.length ∧ (assignEach es X.env).findIdx? (·.1) = none
  | [], [], _ => ⟨pgs_nil, rfl, rfl⟩
  | [], _ :: _, h => by cases h
  | _ :: _, [], h => by cases h
  | i :: is, e :: es, h => by
    cases e with
    | Name x p =>
      simp only [tgtNames, Bool.and_eq_true] at h
      obtain ⟨q1, q2, q3⟩ := pgsOf nd hN hs is es h.2
      obtain ⟨s1, s2⟩ := hs x h.1.2
      refine ⟨pgs_cons (pg_name nd (by rw [hN]; exact of_decide_eq_true h.1.1) s1 s2) q1 rfl, ?_, ?_⟩
      · show (assignEach es X.env).length + 1 = _
        rw [q2]
        rfl
      · show ((false, assign (.Name x p) X.env) :: assignEach es X.env).findIdx? (·.1) = none
        rw [List.findIdx?_cons]
        rw [q3]
        rfl
    | _ => cases h
theorem pgOf {X : Cx} {scope : Scope} {K : PySem.W.Frag} (hc : X.calm = true) (hK : X.K = K) (nd : X.N.Nodup) (hN : X.N = N) (hs : ∀ x, isLoc scope x = true → L2.Loc X.env.scope x ∧ (X.fn x = true ∨ X.env.scope.names.lookup x = some .local)) (tgt : List Nat) (e : Expr) (h : tgtOk N scope tgt e = true) : PG X e (gOf K tgt) := by
  match tgt, e, h with
  | [i], .Name x p, h =>
    simp only [tgtOk, Bool.and_eq_true] at h
    obtain ⟨s1, s2⟩ := hs x h.2
    exact pg_name nd (by rw [hN]; exact of_decide_eq_true h.1) s1 s2
  | i :: j :: is, .Tuple es kk p, h =>
    obtain ⟨q1, q2, q3⟩ := pgsOf nd hN hs (i :: j :: is) es h
    have := pg_tup (pos := p) (k := kk) (n := (i :: j :: is).length) hc q1 q2 q3
    rw [hK] at this
    exact this
theorem own_snd (N : List Str) (tgt : List Nat) : (ownOf N tgt).map (·.2) = tgt := by
  unfold ownOf
  rw [List.map_map]
  exact (List.map_congr_left fun i _ => rfl).trans (List.map_id _)
/-- a comprehension's own names, within its block -/
theorem blk_loc {X : Cx} {s : Shared} {H : Hp} {scope : Scope} {C : Addr} {cs : List (Str × Addr)} {fp : List Addr} (x : Str) (h : isLoc scope x = true) :
    L2.Loc (X.blk s H scope (compEnvC scope cs C X.env) fp).env.scope x ∧ ((X.blk s H scope (compEnvC scope cs C X.env) fp).fn x = true ∨ (X.blk s H scope (compEnvC scope cs C X.env) fp).env.scope.names.lookup x = some .local) := by
  have l := loc_of h
  rcases l with l | l
  · have q : (relS scope X.env.scope).names.lookup x = some .local := lookup_relS_keep (by decide) l
    exact ⟨.inl q, .inr q⟩
  · have q : (relS scope X.env.scope).names.lookup x = some .cell := lookup_relS_keep (by decide) l
    refine ⟨.inr q, .inl ?_⟩
    show (scope.names.lookup x == some .cell) = true
    rw [l]
    rfl
end
end HF

set_option Elab.async false
set_option linter.all false
set_option maxRecDepth 100000
set_option maxHeartbeats 16000000
namespace HF
open PySem PySem.Spec PyProof.Rows L2

section
variable {N fs gs : List Str} {cl : Nat → List Res → O Res} {G : List PyData} {k : Nat}
theorem kind_b1 {X : Cx} {Z : Fx} {sc : Scope} (g : Good X Z N fs gs sc cl G k) {b : B1} {s : String} {y : Expr} {p pos : Pos} {fa : Env → O PyData} (hb : b1N b = some s) (hg : isGl sc (PySem.Str.ofString s) = true) (hs : noStar y = true) (ha : PE X y (TPv Z fa)) :
    PE X (.Call (.Name (PySem.Str.ofString s) p) [y] [] pos) (TEv Z fun r => (fa r).bind (b1D b)) := by
  have gl := g.gl hg
  cases b with
  | len => cases hb; exact sE_fn1 (nx_b1 _) (g.kk ▸ c_len) gl (g.blt _ (by decide)) (by decide +kernel) (by decide) (by decide) hs ha
  | sorted => cases hb; exact sE_fn1 (nx_b1 _) (g.kk ▸ c_sorted) gl (g.blt _ (by decide)) (by decide +kernel) (by decide) (by decide) hs ha
  | tuple => cases hb; exact sE_ty1 (nx_b1 _) (g.kk ▸ c_tuple) gl (g.blt _ (by decide)) (by decide +kernel) (by decide) (by decide) hs ha
  | list => cases hb; exact sE_ty1 (nx_b1 _) (g.kk ▸ c_list) gl (g.blt _ (by decide)) (by decide +kernel) (by decide) (by decide) hs ha
  | min => cases hb; exact sE_fn1 (nx_b1 _) (g.kk ▸ c_min g.calm) gl (g.blt _ (by decide)) (by decide +kernel) (by decide) (by decide) hs ha
  | max => cases hb; exact sE_fn1 (nx_b1 _) (g.kk ▸ c_max g.calm) gl (g.blt _ (by decide)) (by decide +kernel) (by decide) (by decide) hs ha
  | abs => cases hb; exact sE_fn1 (nx_b1 _) (g.kk ▸ c_abs) gl (g.blt _ (by decide)) (by decide +kernel) (by decide) (by decide) hs ha
  | int => cases hb; exact sE_ty1 (nx_b1 _) (g.kk ▸ c_int) gl (g.blt _ (by decide)) (by decide +kernel) (by decide) (by decide) hs ha
  | sum => cases hb; exact sE_fn1 (nx_b1 _) (g.kk ▸ c_sum g.calm) gl (g.blt _ (by decide)) (by decide +kernel) (by decide) (by decide) hs ha
  | all => cases hb; exact sE_fn1 (nx_b1 _) (g.kk ▸ c_all g.calm) gl (g.blt _ (by decide)) (by decide +kernel) (by decide) (by decide) hs ha
  | any => cases hb; exact sE_fn1 (nx_b1 _) (g.kk ▸ c_any g.calm) gl (g.blt _ (by decide)) (by decide +kernel) (by decide) (by decide) hs ha
  | sset => cases hb
  | lset => cases hb
/-- list(range(..)), tuple(range(..)) -/
theorem rgV_dp {K : PySem.W.Frag} {F : Hp} (i : Int) (n : Nat) : DpAll K F ((List.range n).map fun j => V.int (i + (j : Nat))) (rngL i n) := by
  induction n generalizing i with
  | zero => exact .nil
  | succ n ih =>
    rw [List.range_succ_eq_map, List.map_cons, List.map_map]
    simp only [rngL]
    have e0 : i + ((0 : Nat) : Int) = i := by omega
    rw [e0]
    refine .cons (.int i) ?_
    have q := ih (i + 1)
    have e : ((fun j : Nat => V.int (i + (j : Nat))) ∘ Nat.succ) = fun j : Nat => V.int (i + 1 + (j : Nat)) := by
      funext j
      show V.int (i + ((j + 1 : Nat) : Int)) = V.int (i + 1 + (j : Int))
      congr 1
      omega
    rw [e]
    exact q
def rgB (b : B1) (ds : List PyData) : O Res := match b with
  | .list => .ok (.l ds)
  | .tuple => .ok (.v (.tuple ds))
  | _ => .no
theorem rg_fin {Z : Fx} {F H F1 H1 : Hp} {Q : VK} {b : B1} {i j : Int} (e1 : Ext F H F1 H1) (h : Out Z H ((rngD i j).bind fun ds => rgB b ds) fun x => ∀ v F' H', Ext F H F' H' → RepR Z.K H F' H' v x → Q v H') :
    RgOk i j ∧ (b = .list → ∀ q, H1 q = none → Q (.ref q) (upd H1 q (.lst (rgV i j)))) ∧ (b = .tuple → ∀ q, H1 q = none → Q (.ref q) (upd H1 q (.tup (rgV i j)))) := by
  have h' := Out.bind.mp h
  cases q : rngD i j with
  | no => rw [q] at h'; exact h'.elim
  | ex c => exact absurd q (nx_rng i j c)
  | ok ds =>
    rw [q] at h'
    obtain ⟨rfl, hb, hc⟩ := rngD_ok q
    refine ⟨⟨hb.1, hb.2.1, hb.2.2.1, hb.2.2.2, ?_⟩, fun e p hp => ?_, fun e p hp => ?_⟩
    · unfold cap at hc
      omega
    · subst e
      have h2 : ∀ v F' H', Ext F H F' H' → RepR Z.K H F' H' v (.l (rngL i (j - i).toNat)) → Q v H' := h'
      exact h2 _ _ _ (e1.trans (Ext.new e1.fh hp)) ⟨p, _, rfl, Same.free e1.hh hp, Ext.pre e1.fh hp, upd_same, rgV_dp i _⟩
    · subst e
      have h2 : ∀ v F' H', Ext F H F' H' → RepR Z.K H F' H' v (.v (.tuple (rngL i (j - i).toNat))) → Q v H' := h'
      have e2 := Ext.newF (o := .tup (rgV i j)) e1.fh hp
      exact h2 _ _ _ (e1.trans e2) (.tup upd_same (DpAll.up (rgV_dp i _) e2.ff))
theorem kind_rg {X : Cx} {Z : Fx} {sc : Scope} (g : Good X Z N fs gs sc cl G k) {b : B1} {x : Str} {y : Expr} {p pos : Pos} {t : L2.St → Hp → (Int → Int → Hp → Prop) → Prop} {f : Env → O Res} (hg : isGl sc x = true)
    (hb : (decide (b1T b = some "list") && decide (x = ("list" : Str)) || decide (b1T b = some "tuple") && decide (x = ("tuple" : Str))) = true) (hp : PRg X y t) (hs : noStar y = true)
    (h : ∀ σ H Q, TEv Z f σ H Q → t σ H fun i j H1 => RgOk i j ∧ (b = .list → ∀ q, H1 q = none → Q (.ref q) (upd H1 q (.lst (rgV i j)))) ∧ (b = .tuple → ∀ q, H1 q = none → Q (.ref q) (upd H1 q (.tup (rgV i j)))))
    (mono : ∀ σ H (k k' : Int → Int → Hp → Prop), (∀ i j H, k i j H → k' i j H) → t σ H k → t σ H k') : PE X (.Call (.Name x p) [y] [] pos) (TEv Z f) := by
  have gl := g.gl hg
  simp only [Bool.or_eq_true, Bool.and_eq_true, decide_eq_true_eq] at hb
  rcases hb with ⟨hb, rfl⟩ | ⟨hb, rfl⟩
  · have eb : b = .list := by cases b <;> first | rfl | (exact absurd hb (by decide))
    exact (pe_listRg g.calm gl (g.blt _ (by decide)) hp (star_ok hs)).imp fun σ H Q q => mono σ H _ _ (fun i j H1 z => ⟨z.1, z.2.1 eb⟩) (h σ H Q q)
  · have eb : b = .tuple := by cases b <;> first | rfl | (exact absurd hb (by decide))
    exact (pe_tupRg g.calm gl (g.blt _ (by decide)) hp (star_ok hs)).imp fun σ H Q q => mono σ H _ _ (fun i j H1 z => ⟨z.1, z.2.2 eb⟩) (h σ H Q q)
theorem TDv.mono {Z : Fx} {f : Env → O PyData} {σ : L2.St} {H : Hp} {Q Q' : VK} (h : TDv Z f σ H Q) (q : ∀ v H, Q v H → Q' v H) : TDv Z f σ H Q' := by
  obtain ⟨F, r, R, o⟩ := h
  exact ⟨F, r, R, o.mono fun d _ hd v F' H' e dp => q _ _ (hd v F' H' e dp)⟩

theorem b1r1 {X : Cx} {Z : Fx} {sc : Scope} (g : Good X Z N fs gs sc cl G k) {b : B1} {x : Str} {p pos p2 pos2 : Pos} {u : Expr} {c : E} (h0 : isGl sc x = true)
    (h1 : (decide (b1T b = some "list") && decide (x = ("list" : Str)) || decide (b1T b = some "tuple") && decide (x = ("tuple" : Str))) = true) (q1 : isGl sc "range" = true) (q2 : noStar u = true) (q3 : PE X u (TEv Z (ev cl G c))) :
    PE X (.Call (.Name x p) [.Call (.Name "range" p2) [u] [] pos2] [] pos) (TEv Z fun r => (dat (ev cl G c r)).bind fun x => (toI x).bind fun j => (rngD 0 j).bind fun ds => rgB b ds) := by
  refine kind_rg (b := b) g h0 h1 (prg_1 (g.gl q1) (g.blt _ (by decide)) (toD q3) (star_ok q2)) rfl (fun σ H Q q => ?_) fun σ H kk kk' hk hh => ?_
  · obtain ⟨F, r, R, o⟩ := q
    refine ⟨F, r, R, (Out.bind.mp o).mono fun d _ hd v F1 H1 e1 dp => ?_⟩
    cases d with
    | int j =>
      cases dp
      exact ⟨j, rfl, rg_fin e1 hd⟩
    | _ => exact hd.elim
  · exact TDv.mono hh fun v H1 ⟨n, e, q⟩ => ⟨n, e, hk _ _ _ q⟩
theorem b1r2 {X : Cx} {Z : Fx} {sc : Scope} (g : Good X Z N fs gs sc cl G k) {b : B1} {x : Str} {p pos p2 pos2 : Pos} {u v : Expr} {c d : E} (h0 : isGl sc x = true)
    (h1 : (decide (b1T b = some "list") && decide (x = ("list" : Str)) || decide (b1T b = some "tuple") && decide (x = ("tuple" : Str))) = true) (q1 : isGl sc "range" = true) (q2 : noStar u = true) (q3 : noStar v = true) (q4 : PE X u (TEv Z (ev cl G c))) (q5 : PE X v (TEv Z (ev cl G d))) :
    PE X (.Call (.Name x p) [.Call (.Name "range" p2) [u, v] [] pos2] [] pos) (TEv Z fun r => (dat (ev cl G c r)).bind fun x => (dat (ev cl G d r)).bind fun y => (toI x).bind fun i => (toI y).bind fun j => (rngD i j).bind fun ds => rgB b ds) := by
  refine kind_rg (b := b) g h0 h1 (prg_2 (g.gl q1) (g.blt _ (by decide)) (toD q4) (toD q5) (star_ok q2) (star_ok q3) (by rw [star_ok q3]; rfl)) rfl (fun σ H Q q => ?_) fun σ H kk kk' hk hh => ?_
  · obtain ⟨F, r, R, o⟩ := q
    refine ⟨F, r, R, (Out.bind.mp o).mono fun d1 _ hd v F1 H1 e1 dp => ⟨F1, r, R.step e1, ((Out.bind.mp hd).later e1.hh).mono fun d2 _ hd2 v2 F2 H2 e2 dp2 => ?_⟩⟩
    cases d1 with
    | int i =>
      cases d2 with
      | int j =>
        cases dp
        cases dp2
        exact ⟨i, j, rfl, rfl, rg_fin (e1.trans e2) hd2⟩
      | _ => exact hd2.elim
    | _ => exact hd2.elim
  · exact TDv.mono hh fun v H1 q => TDv.mono q fun v2 H2 ⟨i, j, e, e', q⟩ => ⟨i, j, e, e', hk _ _ _ q⟩
def Rgs (cl : Nat → List Res → O Res) (G : List PyData) (X : Cx) (Z : Fx) (sc : Scope) : E → Expr → Prop
  | .rng1 c, e => ∃ p u pos, e = .Call (.Name "range" p) [u] [] pos ∧ isGl sc "range" = true ∧ noStar u = true ∧ PE X u (TEv Z (ev cl G c))
  | .rng2 c d, e => ∃ p u v pos, e = .Call (.Name "range" p) [u, v] [] pos ∧ isGl sc "range" = true ∧ noStar u = true ∧ noStar v = true ∧ PE X u (TEv Z (ev cl G c)) ∧ PE X v (TEv Z (ev cl G d))
  | .enm c, e => ∃ p u pos, e = .Call (.Name "enumerate" p) [u] [] pos ∧ isGl sc "enumerate" = true ∧ noStar u = true ∧ PE X u (TPv Z fun r => pk c (ev cl G c r) r)
  | _, _ => True
theorem sE_no {X : Cx} {Z : Fx} {e : Expr} {f : Env → O Res} (h : ∀ r, f r = .no) : PE X e (TEv Z f) :=
  ⟨fun pins s σ H Q I q => by obtain ⟨F, r, R, o⟩ := q; rw [h] at o; exact o.elim⟩
theorem sT_no {X : Cx} {Z : Fx} {e : Expr} {f : Env → O Res} (h : ∀ r, f r = .no) : PT X e (TTv Z fun r => tst (f r)) :=
  ⟨fun pins s σ H Q I q => by
    obtain ⟨F, r, R, o⟩ := q
    have e : tst (f r) = .no := by rw [h r]; rfl
    simp only [e] at o
    exact o.elim⟩

def srcV (cl : Nat → List Res → O Res) (G : List PyData) (src : E) (r : Env) : O (List PyData) := match src with
  | .rng1 a => (dat (ev cl G a r)).bind fun x => (toI x).bind fun j => rngD 0 j
  | .rng2 a b => (dat (ev cl G a r)).bind fun x => (dat (ev cl G b r)).bind fun y => (toI x).bind fun i => (toI y).bind fun j => rngD i j
  | .enm a => (pk a (ev cl G a r) r).bind tupItems
  | e => (pk e (ev cl G e r) r).bind items
mutual
theorem snd : ∀ (c : E) {X : Cx} {Z : Fx} {sc : Scope} (e : Expr), Good X Z N fs gs sc cl G k → chk N fs gs c sc e = true → (PE X e (TEv Z (ev cl G c)) ∧ (tstOk e = true → PT X e (TTv Z fun r => tst (ev cl G c r)))) ∧ Rgs cl G X Z sc c e
  | .var i, X, Z, sc, e, g, h => by
    refine ⟨?_, trivial⟩
    simp only [chk] at h
    split at h
    · simp only [Bool.and_eq_true] at h
      exact both rfl (PE.cg (fun r => by simp only [ev] <;> rfl) (sE_var (i := i) (g.nm h.1.1) (g.vis h.1.2) (ok1 h.2) (ok2 h.2)))
    · cases h
  | .cst d, X, Z, sc, e, g, h => by
    refine ⟨?_, trivial⟩
    simp only [chk] at h
    split at h
    · rename_i c j p
      have q : PE X (.Constant c j p) (TEv Z fun _ => .ok (.v d)) := by
        cases c <;> cases d <;> first | cases h | skip
        · exact sE_c pe_non fun F => .non
        · simp only [constOk, beq_iff_eq] at h
          subst h
          exact sE_c pe_bl fun F => .bl _
        · simp only [constOk, decide_eq_true_eq] at h
          subst h
          exact sE_c pe_int fun F => .int _
        · simp only [constOk, decide_eq_true_eq] at h
          subst h
          exact sE_c pe_str fun F => .str _
      exact both rfl (PE.cg (fun r => by simp only [ev]) q)
    · cases h
  | .glb i, X, Z, sc, e, g, h => by
    refine ⟨?_, trivial⟩
    simp only [chk] at h
    split at h
    · rename_i x p
      simp only [Bool.and_eq_true] at h
      have q : PE X (.Name x p) (TEv Z (ev cl G (.glb i))) := by
        cases qd : nthD G i with
        | none => exact ⟨fun pins s σ H Q I ⟨F, r, R, o⟩ => by simp only [ev, qd] at o; exact o.elim⟩
        | some d =>
          rw [nthD_eq] at qd
          obtain ⟨v, u, h1, h2, h3⟩ := g.con i x d (ok4 h.2) (of_decide_eq_true h.1.1) qd
          refine PE.cg (fun r => ?_) (sE_c (d := d) (pe_glob (g.gl h.1.2) h1 h2 (ok1 h.2)) h3)
          simp only [ev, nthD_eq, qd]
      exact both rfl q
    · cases h
  | .bin op a b, X, Z, sc, e, g, h => by
    refine ⟨?_, trivial⟩
    simp only [chk] at h
    split at h
    · simp only [Bool.and_eq_true, decide_eq_true_eq] at h
      obtain ⟨⟨rfl, h1⟩, h2⟩ := h
      exact both rfl (PE.cg (fun r => by simp only [ev]) (sE_bin g.kk (pkOf g a h1 (snd a _ g h1).1.1) (pkOf g b h2 (snd b _ g h2).1.1)))
    · cases h
  | .neg a, X, Z, sc, e, g, h => by
    refine ⟨?_, trivial⟩
    simp only [chk] at h
    split at h
    · exact both rfl (PE.cg (fun r => by simp only [ev]) (sE_neg (snd a _ g h).1.1))
    · cases h
  | .cmp op a b, X, Z, sc, e, g, h => by
    refine ⟨?_, trivial⟩
    simp only [chk] at h
    split at h
    · simp only [Bool.and_eq_true, decide_eq_true_eq] at h
      obtain ⟨⟨⟨rfl, hm⟩, h1⟩, h2⟩ := h
      have pa := pkOf g a h1 (snd a _ g h1).1.1
      have pb := pkOf g b h2 (snd b _ g h2).1.1
      exact ⟨PE.cg (fun r => by simp only [ev, cB]) (sE_cmp g.kk g.u65 hm pa pb), fun _ => PT.cg (fun r => by simp only [ev, cB]) (sT_cmp g.kk g.u65 hm pa pb)⟩
    · cases h
  | .chn o1 o2 a b c, X, Z, sc, e, g, h => by
    refine ⟨?_, trivial⟩
    simp only [chk] at h
    split at h
    · rename_i l p1 p2 m r pos
      simp only [Bool.and_eq_true, decide_eq_true_eq] at h
      obtain ⟨⟨⟨⟨⟨rfl, rfl⟩, hm⟩, h1⟩, h2⟩, h3⟩ := h
      have hl : lastMarks [copOf o1, copOf o2] [m, r] = false := by
        show behindInMarks (copOf o2) r = false
        exact marks_ok hm
      exact ⟨PE.cg (fun r => by simp only [ev] <;> rfl) (sE_chn g.kk g.u65 hl (snd a _ g h1).1.1 (snd b _ g h2).1.1 (snd c _ g h3).1.1), fun _ => PT.cg (fun r => by simp only [ev] <;> rfl) (sT_chn g.kk g.u65 hl (snd a _ g h1).1.1 (snd b _ g h2).1.1 (snd c _ g h3).1.1)⟩
    · cases h
  | .bo isAnd es, X, Z, sc, e, g, h => by
    refine ⟨?_, trivial⟩
    simp only [chk] at h
    split at h
    · simp only [Bool.and_eq_true, decide_eq_true_eq] at h
      obtain ⟨rfl, h1⟩ := h
      obtain ⟨q1, q2⟩ := sndB isAnd es _ _ g h1
      exact ⟨PE.cg (fun r => by simp only [ev]) q1, fun _ => PT.cg (fun r => by simp only [ev]) q2.pt⟩
    · cases h
  | .nt a, X, Z, sc, e, g, h => by
    refine ⟨?_, trivial⟩
    simp only [chk] at h
    split at h
    · simp only [Bool.and_eq_true] at h
      obtain ⟨⟨q1, q2⟩, _⟩ := snd a _ g h.2
      refine ⟨PE.cg (fun r => by simp only [ev]) (sE_not q1), fun _ => PT.cg (fun r => ?_) (sT_not (q2 h.1))⟩
      simp only [ev, tst, dat]
      cases ev cl G a r with
      | ok x =>
        cases x with
        | v d => cases d <;> rfl
        | _ => rfl
      | _ => rfl
    · cases h
  | .ite c a b, X, Z, sc, e, g, h => by
    refine ⟨?_, trivial⟩
    simp only [chk] at h
    split at h
    · simp only [Bool.and_eq_true] at h
      obtain ⟨⟨⟨h0, h1⟩, h2⟩, h3⟩ := h
      refine ⟨PE.cg (fun r => ?_) (sE_ite ((snd c _ g h1).1.2 h0) (snd a _ g h2).1.1 (snd b _ g h3).1.1), fun z => by cases z⟩
      simp only [ev, tst]
      cases dat (ev cl G c r) with
      | ok d => rfl
      | _ => rfl
    · cases h
  | .tup es, X, Z, sc, e, g, h => by
    refine ⟨?_, trivial⟩
    simp only [chk] at h
    split at h
    · simp only [Bool.and_eq_true, decide_eq_true_eq] at h
      exact both rfl (PE.cg (fun r => by simp only [ev]) (sE_tup (fun r ds q => by rw [evs_len cl G es _ r ds h.2 q]; exact h.1) (sndEs es _ g h.2)))
    · cases h
  | .lst es, X, Z, sc, e, g, h => by
    refine ⟨?_, trivial⟩
    simp only [chk] at h
    split at h
    · simp only [Bool.and_eq_true, decide_eq_true_eq] at h
      exact both rfl (PE.cg (fun r => by simp only [ev]) (sE_lst (fun r ds q => by rw [evs_len cl G es _ r ds h.2 q]; exact h.1) (sndEs es _ g h.2)))
    · cases h
  | .ix a b, X, Z, sc, e, g, h => by
    refine ⟨?_, trivial⟩
    simp only [chk] at h
    split at h
    · simp only [Bool.and_eq_true] at h
      obtain ⟨⟨h0, h1⟩, h2⟩ := h
      exact both rfl (PE.cg (fun r => by simp only [ev, gV]) (sE_ix g.kk h0 (pkOf g a h1 (snd a _ g h1).1.1) (snd b _ g h2).1.1))
    · cases h
  | .slc a lo hi, X, Z, sc, e, g, h => by
    refine ⟨?_, trivial⟩
    simp only [chk] at h
    split at h
    · rename_i x l hh p2 pos
      simp only [Bool.and_eq_true] at h
      obtain ⟨⟨h0, h1⟩, h2⟩ := h
      have pl : PO X l (TOv Z fun r => part lo (ev cl G lo r)) := by
        split at h1
        · exact partNone lo h1
        · simp only [Bool.and_eq_true, Bool.not_eq_true'] at h1
          exact partOf lo h1.1 (snd lo _ g h1.2).1.1
      have ph : PO X hh (TOv Z fun r => part hi (ev cl G hi r)) := by
        split at h2
        · exact partNone hi h2
        · simp only [Bool.and_eq_true, Bool.not_eq_true'] at h2
          exact partOf hi h2.1 (snd hi _ g h2.2).1.1
      exact both rfl (PE.cg (fun r => by simp only [ev]) (sE_slc g.kk (fun r d q => part_opt lo _ d q) (fun r d q => part_opt hi _ d q) (pkOf g a h0 (snd a _ g h0).1.1) pl ph))
    · cases h
  | .call f es, X, Z, sc, e, g, h => by
    refine ⟨?_, trivial⟩
    simp only [chk] at h
    split at h
    · rename_i x p a as pos
      simp only [Bool.and_eq_true] at h
      obtain ⟨⟨⟨⟨h0, h1⟩, h2⟩, h3⟩, h4⟩ := h
      obtain ⟨ad, fd, ps, q1, q2, q3, q4, q5⟩ := g.fn f x (ok4 h2) (of_decide_eq_true h0)
      exact both rfl (PE.cg (fun r => by simp only [ev]) (sE_call q4 g.room (g.gl h1) q1 q2 q3 g.pass q5 (by simpa using h3) (ok1 h2) (sndEs es _ g h4)))
    · cases h
  | .b1 b a, X, Z, sc, e, g, h => by
    refine ⟨?_, trivial⟩
    have snds := fun y (hy : chk N fs gs a sc y = true) => snd a y g hy
    have gen : isRng a = false → (∀ r, ev cl G (.b1 b a) r = (pk a (ev cl G a r) r).bind fun x => b1D b x) → PE X e (TEv Z (ev cl G (.b1 b a))) ∧ (tstOk e = true → PT X e (TTv Z fun r => tst (ev cl G (.b1 b a) r))) := by
      intro ha ee
      simp only [chk, ha, Bool.false_eq_true, if_false] at h
      split at h
      · split at h
        · split at h
          · simp only [Bool.and_eq_true, decide_eq_true_eq] at h
            obtain ⟨⟨⟨⟨⟨rfl, h0⟩, rfl⟩, h1⟩, h2⟩, h3⟩ := h
            exact both rfl (PE.cg (fun r => (ee r).symm) (sE_sset g.kk g.calm g.u64 (g.gl h0) (g.blt _ (by decide)) (g.gl h1) (g.blt _ (by decide)) (pkOf g a h3 (snds _ h3).1.1) (star_ok h2)))
          · cases h
        · split at h
          · simp only [Bool.and_eq_true, decide_eq_true_eq] at h
            obtain ⟨⟨⟨⟨⟨rfl, h0⟩, rfl⟩, h1⟩, h2⟩, h3⟩ := h
            exact both rfl (PE.cg (fun r => (ee r).symm) (sE_lset g.kk g.calm g.u64 (g.gl h0) (g.blt _ (by decide)) (g.gl h1) (g.blt _ (by decide)) (pkOf g a h3 (snds _ h3).1.1) (star_ok h2)))
          · cases h
        · split at h
          · rename_i s hb
            simp only [Bool.and_eq_true, decide_eq_true_eq] at h
            obtain ⟨⟨⟨rfl, h0⟩, h1⟩, h2⟩ := h
            exact both rfl (PE.cg (fun r => (ee r).symm) (kind_b1 g hb h0 h1 (pkOf g a h2 (snds _ h2).1.1)))
          · cases h
      · cases h
    cases a with
    | rng1 c =>
      simp only [chk, isRng, if_true] at h
      split at h
      · simp only [Bool.and_eq_true] at h
        obtain ⟨⟨h0, h1⟩, h5⟩ := h
        obtain ⟨p, u, pos, rfl, q1, q2, q3⟩ := (snds _ h5).2
        exact both rfl (PE.cg (fun r => by simp only [ev] <;> rfl) (b1r1 (b := b) g h0 h1 q1 q2 q3))
      · cases h
    | rng2 c d =>
      simp only [chk, isRng, if_true] at h
      split at h
      · simp only [Bool.and_eq_true] at h
        obtain ⟨⟨h0, h1⟩, h5⟩ := h
        obtain ⟨p, u, v, pos, rfl, q1, q2, q3, q4, q5⟩ := (snds _ h5).2
        exact both rfl (PE.cg (fun r => by simp only [ev] <;> rfl) (b1r2 (b := b) g h0 h1 q1 q2 q3 q4 q5))
      · cases h
    | _ =>
      exact gen rfl fun r => by simp only [ev]
  | .b2 isMax a b, X, Z, sc, e, g, h => by
    refine ⟨?_, trivial⟩
    simp only [chk] at h
    split at h
    · simp only [Bool.and_eq_true, decide_eq_true_eq] at h
      obtain ⟨⟨⟨⟨⟨rfl, h0⟩, h1⟩, h2⟩, h3⟩, h4⟩ := h
      exact both rfl (PE.cg (fun r => by simp only [ev]) (sE_b2 (isMax := isMax) g.calm (g.gl h0) (by cases isMax <;> exact g.blt _ (by decide)) h1 h2 (snd a _ g h3).1.1 (snd b _ g h4).1.1))
    · cases h
  | .isi t a, X, Z, sc, e, g, h => by
    refine ⟨?_, trivial⟩
    simp only [chk] at h
    split at h
    · simp only [Bool.and_eq_true, decide_eq_true_eq] at h
      obtain ⟨⟨⟨⟨⟨rfl, h0⟩, rfl⟩, h1⟩, h2⟩, h3⟩ := h
      exact both rfl (PE.cg (fun r => by simp only [ev, cB]) (sE_isi g.kk (g.gl h0) (g.blt _ (by decide)) (g.gl h1) (by cases t <;> exact g.blt _ (by decide)) h2 (pkOf g a h3 (snd a _ g h3).1.1)))
    · cases h
  | .comp elt tgt src cond, X, Z, sc, e, g, h => by
    refine ⟨?_, trivial⟩
    have snds := fun y (hy : chk N fs gs src sc y = true) => snd src y g hy
    simp only [chk] at h
    split at h
    · rename_i el tg iter ifs as scope pos
      simp only [Bool.and_eq_true, decide_eq_true_eq] at h
      obtain ⟨⟨⟨⟨⟨⟨⟨rfl, h1⟩, h2⟩, h3⟩, h4⟩, h5⟩, h7⟩, h6⟩ := h
      have hi : PI X tg iter (TIp Z (srcV cl G src)) := by
        cases src with
        | rng1 a =>
          obtain ⟨p, u, pos, rfl, q1, q2, q3⟩ := (snds _ h6).2
          exact TIf.p (sI_rng1 (g.gl q1) (g.blt _ (by decide)) q2 q3)
        | rng2 a b =>
          obtain ⟨p, u, v, pos, rfl, q1, q2, q3, q4, q5⟩ := (snds _ h6).2
          exact TIf.p (sI_rng2 (g.gl q1) (g.blt _ (by decide)) q2 q3 q4 q5)
        | enm a =>
          obtain ⟨p, u, pos, rfl, q1, q2, q3⟩ := (snds _ h6).2
          cases tg with
          | Tuple _ _ _ => exact sI_itk g.kk (g.gl q1) (g.blt _ (by decide)) q2 q3
          | _ => cases h7
        | _ => exact sI_p g.kk (pkOf g _ h6 (snds _ h6).1.1)
      refine both rfl (PE.cg (fun r => ?_) (sE_comp (tgt := tgt) (own := ownOf N tgt) (fc := fun r => (dat (ev cl G cond r)).bind toB) (fe := fun r => dat (ev cl G elt r)) g.kk g.calm (by rw [g.n]; exact g.nd) (own_snd N tgt) hi (by rw [g.n, g.s]; exact blkOk_by h1) (fun s H C cs fp => ?_) (fun s H C cs fp => ?_) (fun s H C cs fp => ?_) h3))
      · cases src <;> (simp only [ev] <;> rfl)
      · exact pgOf (X := X.blk s H scope (compEnvC scope cs C X.env) fp) (N := N) (scope := scope) g.calm g.kk (by show X.N.Nodup; rw [g.n]; exact g.nd) g.n (fun x hx => blk_loc (X := X) (s := s) (H := H) (scope := scope) (C := C) (cs := cs) (fp := fp) x hx) tgt tg h2
      · have gb := g.blk s H scope C cs fp
        split at h5
        · have ec : (fun r : Env => (dat (ev cl G cond r)).bind toB) = fun _ => .ok true := by
            funext r
            cases cond with
            | cst d =>
              cases d with
              | bool b =>
                cases b with
                | true => simp only [ev]; rfl
                | false => cases h5
              | _ => cases h5
            | _ => cases h5
          rw [ec]
          refine ⟨fun pins s' σ H' Q I ⟨F, r, R, o⟩ => pts_nil.run pins s' σ H' Q I (o F H' (.refl R.fh))⟩
        · simp only [Bool.and_eq_true] at h5
          exact pts_one ((snd cond _ gb h5.2).1.2 h5.1)
        · cases h5
      · exact toD (snd elt _ (g.blk s H scope C cs fp) h4).1.1
    · cases h
  | .rng1 a, X, Z, sc, e, g, h => by
    refine ⟨⟨sE_no fun r => by simp only [ev], fun _ => sT_no fun r => by simp only [ev]⟩, ?_⟩
    simp only [chk] at h
    split at h
    · simp only [Bool.and_eq_true, decide_eq_true_eq] at h
      obtain ⟨⟨⟨rfl, q0⟩, q1⟩, q2⟩ := h
      exact ⟨_, _, _, rfl, q0, q1, (snd a _ g q2).1.1⟩
    · cases h
  | .rng2 a b, X, Z, sc, e, g, h => by
    refine ⟨⟨sE_no fun r => by simp only [ev], fun _ => sT_no fun r => by simp only [ev]⟩, ?_⟩
    simp only [chk] at h
    split at h
    · simp only [Bool.and_eq_true, decide_eq_true_eq] at h
      obtain ⟨⟨⟨⟨⟨rfl, q0⟩, q1⟩, q2⟩, q3⟩, q4⟩ := h
      exact ⟨_, _, _, _, rfl, q0, q1, q2, (snd a _ g q3).1.1, (snd b _ g q4).1.1⟩
    · cases h
  | .enm a, X, Z, sc, e, g, h => by
    refine ⟨⟨sE_no fun r => by simp only [ev], fun _ => sT_no fun r => by simp only [ev]⟩, ?_⟩
    simp only [chk] at h
    split at h
    · simp only [Bool.and_eq_true, decide_eq_true_eq] at h
      obtain ⟨⟨⟨rfl, q0⟩, q1⟩, q2⟩ := h
      exact ⟨_, _, _, rfl, q0, q1, pkOf g a q2 (snd a _ g q2).1.1⟩
    · cases h
  | .kin neg i a, X, Z, sc, e, g, h => by
    refine ⟨?_, trivial⟩
    simp only [chk] at h
    split at h
    · simp only [Bool.and_eq_true, decide_eq_true_eq] at h
      obtain ⟨⟨⟨⟨rfl, h0⟩, h1⟩, h2⟩, h3⟩ := h
      have q := fun p => sE_kin (Z := Z) (neg := neg) (i := i) (p := p) g.u1 (g.nm h0) (g.vis h1) (ok1 h2) (ok2 h2) (snd a _ g h3).1.1
      have e1 : ∀ r, ev cl G (.kin neg i a) r = (dat (ev cl G a r)).bind fun x => (toI x).bind fun j => match nth r i with
        | some (.k kvs) => .ok (.v (.bool (if neg then !(lookK kvs j).isSome else (lookK kvs j).isSome)))
        | _ => .no := fun r => by simp only [ev] <;> rfl
      exact ⟨PE.cg (fun r => (e1 r).symm) (pc_pe (q _) (by cases neg <;> rfl)), fun _ => PT.cg (fun r => by rw [e1 r] <;> rfl) (pc_pt (q _) (by cases neg <;> rfl))⟩
    · cases h
  | .kget i a, X, Z, sc, e, g, h => by
    refine ⟨?_, trivial⟩
    simp only [chk] at h
    split at h
    · simp only [Bool.and_eq_true, decide_eq_true_eq] at h
      obtain ⟨⟨⟨⟨⟨⟨rfl, hl⟩, h0⟩, h1⟩, h2⟩, hs⟩, h3⟩ := h
      exact both rfl (PE.cg (fun r => by simp only [ev] <;> rfl) (sE_kget (i := i) g.u1 (g.nm h0) (g.vis h1) (ok1 h2) (ok2 h2) hs hl (snd a _ g h3).1.1))
    · cases h
  | .kix i a, X, Z, sc, e, g, h => by
    refine ⟨?_, trivial⟩
    simp only [chk] at h
    split at h
    · simp only [Bool.and_eq_true, decide_eq_true_eq] at h
      obtain ⟨⟨⟨⟨hs, h0⟩, h1⟩, h2⟩, h3⟩ := h
      exact both rfl (PE.cg (fun r => by simp only [ev] <;> rfl) (sE_kix (i := i) g.u1 (g.nm h0) (g.vis h1) (ok1 h2) (ok2 h2) hs (snd a _ g h3).1.1))
    · cases h
theorem sndEs : ∀ (es : Es) {X : Cx} {Z : Fx} {sc : Scope} (l : List Expr), Good X Z N fs gs sc cl G k → chkEs N fs gs es sc l = true → PA X l (TAv Z (evs cl G es))
  | .nil, X, Z, sc, l, g, h => by
    cases l with
    | nil =>
      have e : evs cl G .nil = fun _ => .ok [] := by funext r; simp only [evs]
      rw [e]
      exact sA_nil
    | cons _ _ => cases h
  | .cons a es, X, Z, sc, l, g, h => by
    cases l with
    | nil => cases h
    | cons x l =>
      simp only [chkEs, Bool.and_eq_true] at h
      have e : evs cl G (.cons a es) = fun r => (dat (ev cl G a r)).bind fun d => (evs cl G es r).bind fun ds => .ok (d :: ds) := by funext r; simp only [evs]
      rw [e]
      exact sA_cons h.1.1 (snd a _ g h.1.2).1.1 (sndEs es l g h.2)
theorem sndB (isAnd : Bool) : ∀ (es : Es) {X : Cx} {Z : Fx} {sc : Scope} (l : List Expr) (pos : Pos), Good X Z N fs gs sc cl G k → chkB N fs gs es sc l = true →
    PE X (.BoolOp (if isAnd then .And else .Or) l pos) (TEv Z (evB cl G isAnd es)) ∧ PW X (.BoolOp (if isAnd then .And else .Or) l pos) (TTv Z fun r => tst (evB cl G isAnd es r))
  | .nil, X, Z, sc, l, pos, g, h => by cases h
  | .cons a .nil, X, Z, sc, l, pos, g, h => by
    cases l with
    | nil => cases h
    | cons x l =>
      simp only [chkB, Bool.and_eq_true] at h
      obtain ⟨⟨h0, h1⟩, h2⟩ := h
      cases l with
      | cons _ _ => cases h2
      | nil =>
        obtain ⟨⟨q1, q2⟩, _⟩ := snd a _ g h1
        have e : ∀ r, evB cl G isAnd (.cons a .nil) r = (dat (ev cl G a r)).bind fun x => (toB x).bind fun b => .ok (.v (.bool b)) := fun r => by simp only [evB]
        refine ⟨PE.cg (fun r => (e r).symm) (sE_bo1 q1), ?_⟩
        have e2 : (fun r => tst (evB cl G isAnd (.cons a .nil) r)) = fun r => tst (ev cl G a r) := by
          funext r
          rw [e]
          unfold tst
          cases dat (ev cl G a r) with
          | ok d => cases d <;> rfl
          | _ => rfl
        rw [e2]
        exact sW_bo1 (q2 h0)
  | .cons a (.cons b es), X, Z, sc, l, pos, g, h => by
    cases l with
    | nil => cases h
    | cons x l =>
      have h' : (tstOk x && chk N fs gs a sc x && chkB N fs gs (.cons b es) sc l) = true := by
        simp only [chkB] at h ⊢
        exact h
      simp only [Bool.and_eq_true] at h'
      obtain ⟨⟨h0, h1⟩, h2⟩ := h'
      cases l with
      | nil => cases h2
      | cons y l =>
        obtain ⟨⟨q1, q2⟩, _⟩ := snd a _ g h1
        obtain ⟨p1, p2⟩ := sndB isAnd (.cons b es) (y :: l) pos g h2
        have e : ∀ r, evB cl G isAnd (.cons a (.cons b es)) r = (dat (ev cl G a r)).bind fun x => (toB x).bind fun k => if k = isAnd then evB cl G isAnd (.cons b es) r else .ok (.v (.bool k)) := fun r => by
          rw [evB]
        refine ⟨PE.cg (fun r => (e r).symm) (sE_bo q1 p1), ?_⟩
        have e2 : (fun r => tst (evB cl G isAnd (.cons a (.cons b es)) r)) = fun r => (tst (ev cl G a r)).bind fun k => if k = isAnd then tst (evB cl G isAnd (.cons b es) r) else .ok k := by
          funext r
          rw [e]
          unfold tst
          cases dat (ev cl G a r) with
          | ok d =>
            cases d with
            | bool kk =>
              simp only [O.ok_bind, toB]
              split <;> rfl
            | _ => rfl
          | _ => rfl
        rw [e2]
        exact sW_bo (q2 h0) p2
end
end
end HF

set_option Elab.async false
set_option linter.all false
set_option maxRecDepth 100000
set_option maxHeartbeats 8000000
/-! ### N: statements, one by one -/
namespace HF
open PySem PySem.Spec PyProof.Rows L2

/-- what is wanted behind a block, from the frozen part F on -/
def FlOk (Z : Fx) (F : Hp) (D : Ends) : Flow → Prop
  | .nx r' => ∀ σ' F' H', Rel Z σ' r' F' H' → Same F F' → D.nx σ' H'
  | .rt x => ∀ v F' H', Ext Z.F0 Z.H0 F' H' → RepR Z.K Z.H0 F' H' v x → D.rt v H'
def TSv (Z : Fx) (f : Env → O Flow) : TS := fun D σ H => ∃ F r, Rel Z σ r F H ∧ Out Z Z.H0 (f r) (FlOk Z F D)
theorem FlOk.up {Z : Fx} {F F' : Hp} {D : Ends} {fl : Flow} (h : FlOk Z F D fl) (s : Same F F') : FlOk Z F' D fl := by
  cases fl with
  | nx r => exact fun σ' F2 H' R s2 => h σ' F2 H' R (s.trans s2)
  | rt x => exact h

section
variable {X : Cx} {Z : Fx} {st : Stmt} {rest : List Stmt}
theorem PS.cg {f g : Env → O Flow} (h : ∀ r, f r = g r) (p : PS X st (TSv Z f)) : PS X st (TSv Z g) := by
  have q : f = g := funext h
  rw [← q]
  exact p
theorem sS_nil : PSs X [] (TSv Z fun r => .ok (.nx r)) := pss_nil.imp fun D σ H ⟨F, r, R, o⟩ => o σ F H R (.refl _)
theorem sS_cons {f g : Env → O Flow} (h : PS X st (TSv Z f)) (t : PSs X rest (TSv Z g)) : PSs X (st :: rest) (TSv Z fun r => (f r).bind fun fl => match fl with
    | .nx r' => g r'
    | .rt v => .ok (.rt v)) := (pss_cons h t).imp fun D σ H ⟨F, r, R, o⟩ => ⟨F, r, R, (Out.bind.mp o).mono fun fl _ hf => by
  cases fl with
  | nx r' => exact fun σ' F' H' R' s => ⟨F', r', R', hf.mono fun fl _ q => q.up s⟩
  | rt x => exact hf⟩

/-! assignments -/
theorem own_at {r : Env} {F H : Hp} {σ : L2.St} {j : Nat} {y : Res} {a : Addr} (R : Rel Z σ r F H) (h : r[j]? = some (some y)) (o : own y) (e : σ[j]? = some (some (.ref a))) : H a ≠ none ∧ F a = none ∧ Z.H0 a = none := by
  obtain ⟨v, h1, h2⟩ := R.sl j y h
  rw [e] at h1
  cases h1
  cases y with
  | v d => exact o.elim
  | l ds =>
    obtain ⟨b, vs, e1, e2, e3, e4, _⟩ := h2
    cases e1
    exact ⟨by rw [e4]; simp, e3, e2⟩
  | k ds =>
    obtain ⟨b, vs, e1, e2, e3, e4, _⟩ := h2
    cases e1
    exact ⟨by rw [e4]; simp, e3, e2⟩
theorem own_new {K : PySem.W.Frag} {Hb F H : Hp} {v : V} {x : Res} {a : Addr} (h : RepR K Hb F H v x) (o : own x) (e : v = .ref a) : Hb a = none ∧ H a ≠ none := by
  cases x with
  | v d => exact o.elim
  | l ds =>
    obtain ⟨b, vs, e1, e2, e3, e4, _⟩ := h
    rw [e] at e1
    cases e1
    exact ⟨e2, by rw [e4]; simp⟩
  | k ds =>
    obtain ⟨b, vs, e1, e2, e3, e4, _⟩ := h
    rw [e] at e1
    cases e1
    exact ⟨e2, by rw [e4]; simp⟩
/-- a fresh value goes into a slot -/
theorem Rel.putE {σ : L2.St} {r : Env} {F H F' H' : Hp} {v : V} {x : Res} {i : Nat} (R : Rel Z σ r F H) (e : Ext F H F' H') (h : RepR Z.K H F' H' v x) : Rel Z (σ.set i (some v)) (HF.put r i x) F' H' :=
  (R.step e).put (RepR.early R.ext.hh h) fun o j y a hj hy oy ev hs => by
    have h1 := (own_at R hy oy hs).1
    exact h1 (own_new h o ev).1
theorem sS_set {te : TE} {f : Env → O Res} {i : Nat} (h : PS X st (tAsg te (gName i))) (q : ∀ σ H Q, TEv Z f σ H Q → te σ H Q) : PS X st (TSv Z fun r => (f r).bind fun x => .ok (.nx (put r i x))) :=
  h.imp fun D σ H ⟨F, r, R, o⟩ => q _ _ _ ⟨F, r, R, ((Out.bind.mp o).later R.ext.hh).mono fun x _ hx v F' H' e rep => hx _ F' H' (R.putE e rep) e.ff⟩
theorem dat_imp {f : Env → O Res} {σ : L2.St} {H : Hp} {Q : VK} (h : TDv Z (fun r => dat (f r)) σ H Q) : TEv Z f σ H Q := by
  obtain ⟨F, r, R, o⟩ := h
  refine ⟨F, r, R, (Out.bind.mp o).mono fun x _ hx v F' H' e rep => ?_⟩
  cases q : x.dat with
  | ok d =>
    rw [q] at hx
    obtain ⟨F'', e', _, dp⟩ := rep.freeze e q
    exact hx v F'' H' e' dp
  | ex c => rw [q] at hx; cases x <;> cases q
  | no => rw [q] at hx; exact hx.elim
theorem sS_sef {te : TE} {f : Env → O Res} {i : Nat} (h : PS X st (tAsg te (gName i))) (q : ∀ σ H Q, TEv Z f σ H Q → te σ H Q) : PS X st (TSv Z fun r => (dat (f r)).bind fun d => .ok (.nx (put r i (.v d)))) :=
  h.imp fun D σ H ⟨F, r, R, o⟩ => q _ _ _ (dat_imp ⟨F, r, R, ((Out.bind.mp o).later R.ext.hh).mono fun d _ hd v F' H' e dp => hd _ F' H' ((R.step e).putV dp) e.ff⟩)
theorem bindL_nx : ∀ (is : List Nat) (ds : List PyData) (r : Env) (c : Nat), bindL is ds r ≠ .ex c
  | [], [], r, c => by simp [bindL]
  | i :: is, d :: ds, r, c => by simp only [bindL]; exact bindL_nx is ds _ c
  | [], _ :: _, r, c => by simp [bindL]
  | _ :: _, [], r, c => by simp [bindL]
theorem bindT_nx (tgt : List Nat) (d : PyData) (r : Env) (c : Nat) : bindT tgt d r ≠ .ex c := by
  unfold bindT
  split
  · simp
  · split
    · exact bindL_nx _ _ _ _
    · simp
theorem Out.of_nx {α : Type} {H : Hp} {o : O α} {k : α → Prop} (h : Out Z H o k) (n : ∀ c, o ≠ .ex c) : ∃ a, o = .ok a ∧ k a := by
  cases o with
  | ok a => exact ⟨a, rfl, h⟩
  | ex c => exact absurd rfl (n c)
  | no => exact h.elim
theorem sS_unp {f : Env → O Res} {i j : Nat} {is : List Nat} (h : PS X st (tAsg (TDv Z fun r => dat (f r)) (gOf Z.K (i :: j :: is)))) : PS X st (TSv Z fun r => (dat (f r)).bind fun d => (match d with
    | .tuple ds => (bindL (i :: j :: is) ds r).bind fun r' => .ok (.nx r')
    | _ => .no)) :=
  h.imp fun D σ H ⟨F, r, R, o⟩ => ⟨F, r, R, ((Out.bind.mp o).later R.ext.hh).mono fun d _ hd v F' H' e dp => by
    cases d with
    | tuple ds =>
      obtain ⟨r', e1, k⟩ := (Out.bind.mp hd).of_nx (bindL_nx _ _ _)
      exact gOf_ok (tgt := i :: j :: is) (R.step e) dp e1 fun σ' R' _ => k σ' F' H' R' e.ff
    | _ => exact hd.elim⟩

/-! freezing -/
theorem Rel.frz1 {σ : L2.St} {r : Env} {F H : Hp} {i : Nat} {xs : List PyData} (R : Rel Z σ r F H) (h : nth r i = some (.l xs)) : ∃ F', Same F F' ∧ Rel Z σ (HF.put r i (.v (.list xs))) F' H := by
  have hr := (nth_iff r i _).mp h
  obtain ⟨v, h1, a, vs, rfl, e2, e3, e4, e5⟩ := R.sl i _ hr
  have s : Same F (upd F a (.lst vs)) := same_upd e3
  have hne : ∀ b, Z.H0 b ≠ none → b ≠ a := fun b hb z => hb (z ▸ e2)
  refine ⟨upd F a (.lst vs), s, ⟨R.ext.ff.trans s, R.ext.hh, fun b o q => ?_, fun b hb => ?_⟩, fun j x hj => ?_, fun j k x y b hjk hj hk ox oy => ?_, by rw [put_eq, List.length_set]; exact R.len⟩
  · by_cases hb : b = a
    · subst hb
      rw [upd_same] at q
      cases q
      exact e4
    · rw [upd_ne hb] at q
      exact R.ext.fh b o q
  · rw [upd_ne (hne b hb)]
    exact R.ext.nw b hb
  · rw [put_eq, set_get] at hj
    by_cases hji : j = i
    · subst hji
      rw [if_pos rfl] at hj
      split at hj
      · cases hj
        exact ⟨_, h1, .lst upd_same (DpAll.up e5 s)⟩
      · cases hj
    · rw [if_neg hji] at hj
      obtain ⟨v, q1, q2⟩ := R.sl j x hj
      refine ⟨v, q1, ?_⟩
      cases x with
      | v d => exact Dp.up q2 s
      | l ds =>
        obtain ⟨b, ws, rfl, p2, p3, p4, p5⟩ := q2
        have hb : b ≠ a := fun z => R.ap j i _ _ b hji hj hr trivial trivial q1 (by rw [h1, z])
        exact ⟨b, ws, rfl, p2, by rw [upd_ne hb]; exact p3, p4, DpAll.up p5 s⟩
      | k ds =>
        obtain ⟨b, ws, rfl, p2, p3, p4, p5⟩ := q2
        have hb : b ≠ a := fun z => R.ap j i _ _ b hji hj hr trivial trivial q1 (by rw [h1, z])
        exact ⟨b, ws, rfl, p2, by rw [upd_ne hb]; exact p3, p4, KVs.up p5 s⟩
  · rw [put_eq, set_get] at hj hk
    by_cases hji : j = i
    · subst hji
      rw [if_pos rfl] at hj
      split at hj
      · cases hj
        exact ox.elim
      · cases hj
    · by_cases hki : k = i
      · subst hki
        rw [if_pos rfl] at hk
        split at hk
        · cases hk
          exact oy.elim
        · cases hk
      · rw [if_neg hji] at hj
        rw [if_neg hki] at hk
        exact R.ap j k x y b hjk hj hk ox oy
theorem Rel.frz {σ : L2.St} {H : Hp} : ∀ (is : List Nat) {r : Env} {F : Hp}, Rel Z σ r F H → ∃ F', Same F F' ∧ Rel Z σ (frzL is r) F' H
  | [], r, F, R => ⟨F, .refl _, R⟩
  | i :: is, r, F, R => by
    unfold frzL
    split
    · rename_i xs h
      obtain ⟨F1, s1, R1⟩ := R.frz1 h
      obtain ⟨F2, s2, R2⟩ := Rel.frz is R1
      exact ⟨F2, s1.trans s2, R2⟩
    · exact Rel.frz is R
theorem sS_frz {f : Env → O Flow} {is : List Nat} (h : PS X st (TSv Z f)) : PS X st (TSv Z fun r => f (frzL is r)) := h.imp fun D σ H ⟨F, r, R, o⟩ => by
  obtain ⟨F', s, R'⟩ := R.frz is
  exact ⟨F', _, R', o.mono fun fl _ q => q.up s⟩

/-! a, b = x, y -/
def Reps (K : PySem.W.Frag) (F H : Hp) : Hp → List V → List Res → Prop
  | _, [], [] => True
  | Hb, v :: vs, x :: xs => RepR K Hb F H v x ∧ ∃ Hm, Same Hb Hm ∧ (own x → ∀ a, v = .ref a → Hm a ≠ none) ∧ Reps K F H Hm vs xs
  | _, _, _ => False
def TRv (Z : Fx) (f : Env → O (List Res)) : TA := fun σ H Q => ∃ F r, Rel Z σ r F H ∧ Out Z H (f r) fun xs => ∀ vs F' H', Ext F H F' H' → Reps Z.K F' H' H vs xs → Q vs H'
theorem sR_nil : PA X [] (TRv Z fun _ => .ok []) := pa_nil.imp fun σ H Q ⟨F, r, R, o⟩ => o [] F H (.refl R.fh) trivial
theorem sR_cons {e : Expr} {es : List Expr} {f : Env → O Res} {g : Env → O (List Res)} (hs : noStar e = true) (h : PE X e (TEv Z f)) (ht : PA X es (TRv Z g)) :
    PA X (e :: es) (TRv Z fun r => (f r).bind fun d => (g r).bind fun ds => .ok (d :: ds)) :=
  (pa_cons h ht (star_ok hs)).imp fun σ H Q ⟨F, r, R, o⟩ => ⟨F, r, R, (Out.bind.mp o).mono fun x _ hx v F1 H1 e1 rep => ⟨F1, r, R.step e1, ((Out.bind.mp hx).later e1.hh).mono fun xs _ hxs vs F2 H2 e2 reps =>
    hxs (v :: vs) F2 H2 (e1.trans e2) ⟨rep.step e2, H1, e1.hh, fun o a ev => (own_new rep o ev).2, reps⟩⟩⟩
def setAll : List Nat → List V → L2.St → L2.St
  | i :: is, v :: vs, σ => setAll is vs (σ.set i (some v))
  | _, _, σ => σ
theorem bindR_nx : ∀ (is : List Nat) (ds : List Res) (r : Env) (c : Nat), bindR is ds r ≠ .ex c
  | [], [], r, c => by simp [bindR]
  | i :: is, d :: ds, r, c => by simp only [bindR]; exact bindR_nx is ds _ c
  | [], _ :: _, r, c => by simp [bindR]
  | _ :: _, [], r, c => by simp [bindR]
theorem reps_bind {F H : Hp} : ∀ (is : List Nat) (vs : List V) (xs : List Res) (σ : L2.St) (r r' : Env) (Hm : Hp), Rel Z σ r F H → (∀ (j : Nat) y a, r[j]? = some (some y) → own y → σ[j]? = some (some (.ref a)) → Hm a ≠ none) → Same Z.H0 Hm →
    Reps Z.K F H Hm vs xs → bindR is xs r = .ok r' → Rel Z (setAll is vs σ) r' F H ∧ vs.length = is.length
  | [], vs, xs, σ, r, r', Hm, R, hm, s, rp, e => by
    cases xs with
    | cons _ _ => cases e
    | nil =>
      cases vs with
      | cons _ _ => exact rp.elim
      | nil =>
        cases e
        exact ⟨R, rfl⟩
  | i :: is, vs, xs, σ, r, r', Hm, R, hm, s, rp, e => by
    cases xs with
    | nil => cases e
    | cons x xs =>
      cases vs with
      | nil => exact rp.elim
      | cons v vs =>
        obtain ⟨p1, H2, p2, p3, p4⟩ := rp
        have R1 : Rel Z (σ.set i (some v)) (put r i x) F H := R.put (RepR.early s p1) fun o j y a hj hy oy ev hs => hm j y a hy oy hs (own_new p1 o ev).1
        have hm2 : ∀ (j : Nat) y a, (put r i x)[j]? = some (some y) → own y → (σ.set i (some v))[j]? = some (some (.ref a)) → H2 a ≠ none := by
          intro j y a hj oy hs
          rw [put_eq, set_get] at hj
          rw [set_get] at hs
          by_cases hji : j = i
          · subst hji
            rw [if_pos rfl] at hj hs
            split at hj
            · cases hj
              split at hs
              · cases hs
                exact p3 oy a rfl
              · cases hs
            · cases hj
          · rw [if_neg hji] at hj hs
            exact Same.some_ne p2 (hm j y a hj oy hs)
        obtain ⟨q1, q2⟩ := reps_bind is vs xs _ _ r' H2 R1 hm2 (s.trans p2) p4 e
        exact ⟨q1, by simp [q2]⟩
theorem par_fin {D : Ends} {f : Env → O (List Res)} {is fz : List Nat} {σ : L2.St} {H : Hp} {Q : List V → Hp → Prop} (h : TSv Z (fun r => (f r).bind fun xs => (bindR is xs r).bind fun r' => .ok (.nx (frzL fz r'))) D σ H)
    (q : ∀ vs H', vs.length = is.length → D.nx (setAll is vs σ) H' → Q vs H') : TRv Z f σ H Q := by
  obtain ⟨F, r, R, o⟩ := h
  refine ⟨F, r, R, ((Out.bind.mp o).later R.ext.hh).mono fun xs _ hx vs F' H' e rp => ?_⟩
  obtain ⟨r', e1, k⟩ := (Out.bind.mp hx).of_nx (bindR_nx _ _ _)
  obtain ⟨R1, hl⟩ := reps_bind is vs xs σ r r' H (R.step e) (fun j y a hj oy hs => (own_at R hj oy hs).1) R.ext.hh rp e1
  obtain ⟨F2, s2, R2⟩ := R1.frz fz
  exact q vs H' hl (k _ F2 H' R2 (e.ff.trans s2))

/-! expressions, returns -/
theorem sS_exp {f : Env → O Res} {e : Expr} (h : PS X st (tDrop (TEv Z f))) : PS X st (TSv Z fun r => (f r).bind fun _ => .ok (.nx r)) :=
  h.imp fun D σ H ⟨F, r, R, o⟩ => ⟨F, r, R, ((Out.bind.mp o).later R.ext.hh).mono fun x _ hx v F' H' e rep => hx σ F' H' (R.step e) e.ff⟩
theorem sS_ret {f : Env → O Res} {e : Expr} {pos : Pos} (h : PE X e (TEv Z f)) : PS X (.Return (some e) pos) (TSv Z fun r => (f r).bind fun x => .ok (.rt x)) :=
  (ps_ret h).imp fun D σ H ⟨F, r, R, o⟩ => ⟨F, r, R, ((Out.bind.mp o).later R.ext.hh).mono fun x _ hx v F' H' e rep => hx v F' H' (R.ext.trans e) (RepR.early R.ext.hh rep)⟩
theorem sS_retv {i : Nat} {x : Str} {p pos : Pos} (hN : X.N[i]? = some x) (hv : Vis X.env.scope x) (hd : (x == ("__debug__" : Str)) = false) (hcd : (x == ("__classdict__" : Str)) = false) :
    PS X (.Return (some (.Name x p)) pos) (TSv Z fun r => (match nth r i with
      | some x => .ok (.rt x)
      | none => .no)) := (ps_ret (pe_var hN hv hd hcd)).imp fun D σ H ⟨F, r, R, o⟩ => by
  dsimp only at o
  cases q : nth r i with
  | none => rw [q] at o; exact o.elim
  | some y =>
    rw [q] at o
    obtain ⟨v, h1, h2⟩ := R.sl i _ ((nth_iff r i _).mp q)
    exact ⟨v, h1, o v F H R.ext h2⟩
theorem sS_if {c : Expr} {a b : List Stmt} {pos : Pos} {f : Env → O Res} {fa fb : Env → O Flow} (hc : PT X c (TTv Z fun r => tst (f r))) (ha : PSs X a (TSv Z fa)) (hb : PSs X b (TSv Z fb)) :
    PS X (.If c a b pos) (TSv Z fun r => (dat (f r)).bind fun x => (toB x).bind fun t => match t with
      | true => fa r
      | false => fb r) := (ps_if hc ha hb).imp fun D σ H ⟨F, r, R, o⟩ => by
  refine ⟨F, r, R, ?_⟩
  have o2 := (Out.bind.mp o).later R.ext.hh
  refine Out.bind.mpr (o2.mono fun x _ hx => ?_)
  refine ((Out.bind.mp hx).later R.ext.hh).mono fun t _ ht F' H' e => ?_
  cases t with
  | true => exact ⟨F', r, R.step e, ht.mono fun fl _ q => q.up e.ff⟩
  | false => exact ⟨F', r, R.step e, ht.mono fun fl _ q => q.up e.ff⟩
end
end HF

set_option Elab.async false
set_option linter.all false
set_option maxRecDepth 100000
set_option maxHeartbeats 8000000
/-! ### O: loops; lists and dicts of one's own; errors -/
namespace HF
open PySem PySem.Spec PyProof.Rows L2

section
variable {X : Cx} {Z : Fx} {st : Stmt} {rest : List Stmt}
/-- an object of one's own is rewritten -/
theorem Rel.write {σ : L2.St} {r : Env} {F H : Hp} {i : Nat} {a : Addr} {o : HO} {x x' : Res} (R : Rel Z σ r F H) (hi : r[i]? = some (some x)) (ho : own x) (hs : σ[i]? = some (some (.ref a))) (hx : own x') (hr : RepR Z.K Z.H0 F (upd H a o) (.ref a) x') :
    Rel Z σ (HF.put r i x') F (upd H a o) := by
  obtain ⟨_, hf, h0⟩ := own_at R hi ho hs
  refine ⟨⟨R.ext.ff, fun b u q => ?_, fun b u q => ?_, R.ext.nw⟩, fun j y hj => ?_, fun j k y z b hjk hj hk oy oz => ?_, by rw [put_eq, List.length_set]; exact R.len⟩
  · rw [upd_ne (fun z => by rw [z, h0] at q; cases q)]
    exact R.ext.hh b u q
  · rw [upd_ne (fun z => by rw [z, hf] at q; cases q)]
    exact R.ext.fh b u q
  · rw [put_eq, set_get] at hj
    by_cases hji : j = i
    · subst hji
      rw [if_pos rfl] at hj
      split at hj
      · cases hj
        exact ⟨_, hs, hr⟩
      · cases hj
    · rw [if_neg hji] at hj
      obtain ⟨v, q1, q2⟩ := R.sl j y hj
      refine ⟨v, q1, ?_⟩
      cases y with
      | v d => exact q2
      | l ds =>
        obtain ⟨b, ws, rfl, p2, p3, p4, p5⟩ := q2
        have hb : b ≠ a := fun z => R.ap j i _ _ b hji hj hi trivial ho q1 (by rw [hs, z])
        exact ⟨b, ws, rfl, p2, p3, by rw [upd_ne hb]; exact p4, p5⟩
      | k ds =>
        obtain ⟨b, ws, rfl, p2, p3, p4, p5⟩ := q2
        have hb : b ≠ a := fun z => R.ap j i _ _ b hji hj hi trivial ho q1 (by rw [hs, z])
        exact ⟨b, ws, rfl, p2, p3, by rw [upd_ne hb]; exact p4, p5⟩
  · rw [put_eq, set_get] at hj hk
    by_cases hji : j = i
    · subst hji
      rw [if_neg (Ne.symm hjk)] at hk
      exact R.ap _ k x z b hjk hi hk ho oz
    · rw [if_neg hji] at hj
      by_cases hki : k = i
      · subst hki
        exact R.ap j _ y x b hjk hj hi oy ho
      · rw [if_neg hki] at hk
        exact R.ap j k y z b hjk hj hk oy oz
/-- the list that a slot owns -/
theorem Rel.lst {σ : L2.St} {r : Env} {F H : Hp} {i : Nat} {xs : List PyData} (R : Rel Z σ r F H) (h : nth r i = some (.l xs)) : ∃ a vs, σ[i]? = some (some (.ref a)) ∧ Z.H0 a = none ∧ F a = none ∧ H a = some (.lst vs) ∧ DpAll Z.K F vs xs := by
  obtain ⟨v, h1, a, vs, rfl, e2, e3, e4, e5⟩ := R.sl i _ ((nth_iff r i _).mp h)
  exact ⟨a, vs, h1, e2, e3, e4, e5⟩
theorem Rel.dct {σ : L2.St} {r : Env} {F H : Hp} {i : Nat} {xs : List (Int × PyData)} (R : Rel Z σ r F H) (h : nth r i = some (.k xs)) : ∃ a vs, σ[i]? = some (some (.ref a)) ∧ Z.H0 a = none ∧ F a = none ∧ H a = some (.dK vs) ∧ KVs Z.K F vs xs := by
  obtain ⟨v, h1, a, vs, rfl, e2, e3, e4, e5⟩ := R.sl i _ ((nth_iff r i _).mp h)
  exact ⟨a, vs, h1, e2, e3, e4, e5⟩
theorem Rel.setL {σ : L2.St} {r : Env} {F H : Hp} {i : Nat} {a : Addr} {xs ys : List PyData} {vs ws : List V} (R : Rel Z σ r F H) (h : nth r i = some (.l xs)) (hs : σ[i]? = some (some (.ref a))) (hw : DpAll Z.K F ws ys) :
    Rel Z σ (HF.put r i (.l ys)) F (upd H a (.lst ws)) := by
  have hr := (nth_iff r i _).mp h
  obtain ⟨_, hf, h0⟩ := own_at R hr trivial hs
  exact R.write (x := .l xs) (x' := .l ys) hr trivial hs trivial ⟨a, ws, rfl, h0, hf, upd_same, hw⟩

/-! loops -/
theorem sS_for {tg iter : Expr} {body : List Stmt} {pos : Pos} {tgt : List Nat} {fi : Env → O (List PyData)} {fb : Env → O Flow} (hp : PassesOwn (model X.prog X.w) X.A X.env X.xe) (hc : X.calm = true) (hi : PI X tg iter (TIf Z fi))
    (hg : PG X tg (gOf Z.K tgt)) (hb : PSs X body (TSv Z fb)) (hs : notSet iter = true) : PS X (.For tg iter body [] pos) (TSv Z fun r => (fi r).bind fun xs => forL tgt fb xs r) := by
  refine (ps_for hp hc hi hg hb (by intro x; cases iter <;> first | rfl | cases hs)).imp fun D σ H ⟨F, r, R, o⟩ => ?_
  refine ⟨F, r, R, ((Out.bind.mp o).later R.ext.hh).mono fun ds _ hd J F1 H1 e1 hlen w => ?_⟩
  let P : Nat → L2.St → Hp → Prop := fun i σ' H' => ∃ F' r', Rel Z σ' r' F' H' ∧ Same F1 F' ∧ Out Z Z.H0 (forL tgt fb (ds.drop i) r') (FlOk Z F' D)
  refine ⟨fun i m σ' H' => m = ds.length - i ∧ i ≤ ds.length ∧ P i σ' H', ⟨ds.length, by simp, Nat.zero_le _, F1, r, R.step e1, .refl _, ?_⟩, ?_⟩
  · rw [List.drop_zero]
    exact hd.mono fun fl _ q => q.up e1.ff
  · rintro i m σ' H' ⟨rfl, hle, F', r', R', s', o'⟩
    obtain ⟨ws, wg⟩ := w H' (s'.trans R'.fh)
    by_cases hlt : i < ds.length
    · have hdi : ds[i]? = some ds[i] := List.getElem?_eq_getElem hlt
      obtain ⟨hgo, hy⟩ := wg i ds[i] hdi
      refine .inr ⟨hgo, P (i + 1), fun σ2 H2 q => ⟨_, by omega, rfl, hlt, q⟩, fun x Hn hyl => ?_⟩
      obtain ⟨F3, e3, dx⟩ := hy x Hn hyl F' s' R'.fh
      rw [List.drop_eq_getElem_cons hlt] at o'
      simp only [forL] at o'
      obtain ⟨r1, eb, k⟩ := (Out.bind.mp o').of_nx (bindT_nx _ _ _)
      refine gOf_ok (R'.step e3) dx eb fun σ3 R3 _ => ⟨F3, r1, R3, (Out.bind.mp k).mono fun fl _ hf => ?_⟩
      cases fl with
      | nx r2 => exact fun σ4 F4 H4 R4 s4 => ⟨F4, r2, R4, (s'.trans e3.ff).trans s4, hf.mono fun fl _ q => q.up (e3.ff.trans s4)⟩
      | rt v => exact fun v' F4 H4 e4 rep => hf v' F4 H4 e4 rep
    · have e : i = ds.length := by omega
      subst e
      refine .inl ⟨ws, ?_⟩
      rw [List.drop_length] at o'
      exact o' σ' F' H' R' (.refl _)
theorem sS_while {c : Expr} {body : List Stmt} {pos : Pos} {fc : Env → O Bool} {fb : Env → O Flow} {n : Nat} (hp : PassesOwn (model X.prog X.w) X.A X.env X.xe) (hc : PT X c (TTv Z fc)) (hb : PSs X body (TSv Z fb)) :
    PS X (.While c body [] pos) (TSv Z fun r => whlN fc fb n r) := by
  refine (ps_while hp hc hb).imp fun D σ H ⟨F, r, R, o⟩ => ?_
  let W : Nat → L2.St → Hp → Prop := fun m σ' H' => ∃ F' r', Rel Z σ' r' F' H' ∧ Out Z Z.H0 (whlN fc fb m r') (FlOk Z F' D)
  refine ⟨W, ⟨n, F, r, R, o⟩, ?_⟩
  rintro m σ' H' ⟨F', r', R', o'⟩
  cases m with
  | zero => exact o'.elim
  | succ m =>
    simp only [whlN] at o'
    refine ⟨F', r', R', ((Out.bind.mp o').later R'.ext.hh).mono fun b _ hbk F2 H2 e2 => ?_⟩
    cases b with
    | true =>
      rw [if_pos rfl]
      refine ⟨W m, fun σ3 H3 q => ⟨m, Nat.lt_succ_self m, q⟩, F2, r', R'.step e2, (Out.bind.mp hbk).mono fun fl _ hf => ?_⟩
      cases fl with
      | nx r2 => exact fun σ4 F4 H4 R4 s4 => ⟨F4, r2, R4, hf.mono fun fl _ q => q.up (e2.ff.trans s4)⟩
      | rt v => exact fun v' F4 H4 e4 rep => hf v' F4 H4 e4 rep
    | false =>
      rw [if_neg Bool.false_ne_true]
      exact hbk σ' F2 H2 (R'.step e2) e2.ff

/-! lists -/
theorem few1 {e : Expr} {cpos : Pos} (hs : noStar e = true) : ((backTo cpos (starEach [e] X.env)).all (fun x => !x.1) && (backToKw cpos (keywordEach [] X.env)).all (fun x => x.1.isSome)
      && decide (([e] : List Expr).length + ([] : List Keyword).length + (if ([] : List Keyword).isEmpty then 0 else 1) < 30)) = true := by
  rw [star_ok hs]
  rfl
section
variable {i : Nat} {x : Str} {p apos cpos pos : Pos} {e : Expr} {fe : Env → O Res}
theorem sS_app (hN : X.N[i]? = some x) (hv : Vis X.env.scope x) (hd : (x == ("__debug__" : Str)) = false) (hcd : (x == ("__classdict__" : Str)) = false) (hl : (apos.endLine == cpos.line) = true) (hs : noStar e = true) (he : PE X e (TEv Z fe)) :
    PS X (.Expr (.Call (.Attribute (.Name x p) "append" apos) [e] [] cpos) pos) (TSv Z fun r => match nth r i with
      | some (.l xs) => (dat (fe r)).bind fun d => if xs.length < cap then .ok (.nx (put r i (.l (xs ++ [d])))) else .no
      | _ => .no) := by
  refine (ps_expr (pe_bm PySem.F.plainAttrs_list PySem.F.slot_list_append PySem.F.type_list_append mt_append (pe_var hN hv hd hcd) (pa_cons (toD he) pa_nil (star_ok hs)) rfl (few1 hs) hl (star_ok hs) rfl)).imp fun D σ H ⟨F, r, R, o⟩ => ?_
  dsimp only at o
  split at o
  · rename_i xs hn
    obtain ⟨a, vs, h1, h0, hf, h2, h3⟩ := R.lst hn
    refine ⟨.ref a, h1, .inl ⟨rfl, vs, SqL.of h2⟩, F, r, R, ((Out.bind.mp o).later R.ext.hh).mono fun d _ hd v F1 H1 e1 dp => ?_⟩
    split at hd
    · rename_i hc
      have hlen := h3.len
      have hq : xs.length < sizeLine := Nat.lt_of_lt_of_le hc (cap_line (Nat.le_refl _))
      refine ⟨a, vs, v, rfl, rfl, e1.hh _ _ h2, by rw [hlen]; exact hq, hd σ F1 _ ?_ e1.ff⟩
      exact (R.step e1).setL (vs := vs) hn h1 ((DpAll.up h3 e1.ff).append (.cons dp .nil))
    · exact hd.elim
  · exact o.elim
theorem sS_ext (hN : X.N[i]? = some x) (hv : Vis X.env.scope x) (hd : (x == ("__debug__" : Str)) = false) (hcd : (x == ("__classdict__" : Str)) = false) (hl : (apos.endLine == cpos.line) = true) (hs : noStar e = true) (he : PE X e (TEv Z fe)) :
    PS X (.Expr (.Call (.Attribute (.Name x p) "extend" apos) [e] [] cpos) pos) (TSv Z fun r => match nth r i with
      | some (.l xs) => (dat (fe r)).bind fun d => (match d with
        | .list ys => if xs.length + ys.length ≤ cap then .ok (.nx (put r i (.l (xs ++ ys)))) else .no
        | _ => .no)
      | _ => .no) := by
  refine (ps_expr (pe_bm PySem.F.plainAttrs_list PySem.F.slot_list_extend PySem.F.type_list_extend mt_extend (pe_var hN hv hd hcd) (pa_cons (toD he) pa_nil (star_ok hs)) rfl (few1 hs) hl (star_ok hs) rfl)).imp fun D σ H ⟨F, r, R, o⟩ => ?_
  dsimp only at o
  split at o
  · rename_i xs hn
    obtain ⟨a, vs, h1, h0, hf, h2, h3⟩ := R.lst hn
    refine ⟨.ref a, h1, .inl ⟨rfl, vs, SqL.of h2⟩, F, r, R, ((Out.bind.mp o).later R.ext.hh).mono fun d _ hd v F1 H1 e1 dp => ?_⟩
    cases d with
    | list ys =>
      dsimp only at hd
      split at hd
      · rename_i hc
        cases dp with
        | lst q1 q2 =>
          have l1 := h3.len
          have l2 := q2.len
          refine ⟨a, _, vs, _, rfl, rfl, e1.hh _ _ h2, e1.fh _ _ q1, by rw [l1, l2]; exact cap_line hc, hd σ F1 _ ?_ e1.ff⟩
          exact (R.step e1).setL (vs := vs) hn h1 ((DpAll.up h3 e1.ff).append q2)
      · exact hd.elim
    | _ => exact hd.elim
  · exact o.elim
end
/-- not a comprehension -/
def notComp (e : Expr) : Bool := match e with
  | .ListComp .. => false
  | .SetComp .. => false
  | .DictComp .. => false
  | _ => true
theorem sw_no {e : Expr} {t : Option Expr} {l : Nat} {env : PySem.Env} (h : notComp e = true) : swapsWith e t l env = pure false := by
  cases e <;> first | rfl | cases h
theorem sw_sole {e t : Expr} {l : Nat} {env : PySem.Env} (h : notComp e = true) : swapsWithSole [t] e l env = pure false := by
  rw [show swapsWithSole [t] e l env = swapsWith e (some t) l env from by unfold swapsWithSole; rfl]
  exact sw_no h
theorem setNth_eq : ∀ (xs : List PyData) (j : Nat) (d : PyData), setNth xs j d = xs.set j d
  | [], _, _ => rfl
  | a :: r, 0, d => rfl
  | a :: r, n + 1, d => by simp only [setNth, List.set_cons_succ]; rw [setNth_eq r n d]
theorem sS_six {i : Nat} {x : Str} {p tpos pos : Pos} {k e : Expr} {fk fe : Env → O Res} (hN : X.N[i]? = some x) (hv : Vis X.env.scope x) (hd : (x == ("__debug__" : Str)) = false) (hcd : (x == ("__classdict__" : Str)) = false) (hk : notSlice k = true) (hc : notComp e = true)
    (pk : PE X k (TEv Z fk)) (he : PE X e (TEv Z fe)) : PS X (.Assign [.Subscript (.Name x p) k tpos] e pos) (TSv Z fun r => match nth r i with
      | some (.l xs) => (dat (fe r)).bind fun y => (dat (fk r)).bind fun x => (toI x).bind fun k => (match ixOf xs.length k with
        | some j => .ok (.nx (put r i (.l (setNth xs j y))))
        | none => .no)
      | _ => .no) := by
  refine (ps_asg (toD he) (pg_sub (pe_var hN hv hd hcd) (toD pk) set_list (by intro v; cases k <;> first | rfl | cases hk)) (sw_sole hc) (by cases e <;> rfl)).imp fun D σ H ⟨F, r, R, o⟩ => ?_
  dsimp only at o
  split at o
  · rename_i xs hn
    obtain ⟨a, vs, h1, h0, hf, h2, h3⟩ := R.lst hn
    refine ⟨F, r, R, ((Out.bind.mp o).later R.ext.hh).mono fun y _ hy v F1 H1 e1 dp => ⟨.ref a, h1, F1, r, R.step e1, ((Out.bind.mp hy).later (R.ext.hh.trans e1.hh)).mono fun z _ hz w F2 H2 e2 dp2 => ?_⟩⟩
    cases z with
    | int k =>
      cases dp2
      dsimp only [toI, O.ok_bind] at hz
      have hz' : Out Z Z.H0 (match ixOf xs.length k with
        | some j => .ok (.nx (put r i (.l (setNth xs j y))))
        | none => .no) (FlOk Z F D) := hz
      cases q : ixOf xs.length k with
      | none => rw [q] at hz'; exact hz'.elim
      | some j =>
        rw [q] at hz'
        have e12 := e1.trans e2
        refine ⟨a, vs, k, j, rfl, rfl, e12.hh _ _ h2, by rw [h3.len]; exact q, hz' σ F2 _ ?_ e12.ff⟩
        rw [setNth_eq]
        exact (R.step e12).setL (vs := vs) hn h1 (DpAll.set (Dp.up dp e2.ff) j (DpAll.up h3 e12.ff))
    | _ => exact hz.elim
  · exact o.elim

/-! dicts -/
theorem KVs.len {K : PySem.W.Frag} {F : Hp} {ws : List (Key × V)} {kvs : List (Int × PyData)} (h : KVs K F ws kvs) : ws.length = kvs.length := by
  unfold KVs at h
  induction h with
  | nil => rfl
  | cons _ _ ih => simp [ih]
theorem KVs.put {K : PySem.W.Frag} {F : Hp} {ws : List (Key × V)} {kvs : List (Int × PyData)} {k : Int} {v : V} {d : PyData} (h : KVs K F ws kvs) (hd : Dp K F v d) : KVs K F (L2.putK ws (Sum.inl k) v) (putK kvs k d) := by
  have any : ∀ {ws : List (Key × V)} {kvs : List (Int × PyData)}, KVs K F ws kvs → (ws.any fun kv => decide (kv.1 = Sum.inl k)) = (kvs.any fun kv => decide (kv.1 = k)) := by
    intro ws kvs h
    unfold KVs at h
    induction h with
    | nil => rfl
    | @cons a b as bs q t ih =>
      rw [List.any_cons, List.any_cons, ih, q.1]
      simp
  have mp : ∀ {ws : List (Key × V)} {kvs : List (Int × PyData)}, KVs K F ws kvs → KVs K F (ws.map fun kv => if kv.1 = Sum.inl k then (kv.1, v) else kv) (kvs.map fun kv => if kv.1 = k then (kv.1, d) else kv) := by
    intro ws kvs h
    unfold KVs at h ⊢
    induction h with
    | nil => exact .nil
    | @cons a b as bs q t ih =>
      rw [List.map_cons, List.map_cons]
      refine .cons ?_ ih
      by_cases hb : b.1 = k
      · rw [if_pos hb, if_pos (by rw [q.1, hb])]
        exact ⟨q.1, hd⟩
      · rw [if_neg hb, if_neg (by rw [q.1]; intro z; exact hb (Sum.inl.inj z))]
        exact q
  have ap : ∀ {ws : List (Key × V)} {kvs : List (Int × PyData)}, KVs K F ws kvs → KVs K F (ws ++ [(Sum.inl k, v)]) (kvs ++ [(k, d)]) := by
    intro ws kvs h
    unfold KVs at h ⊢
    induction h with
    | nil => exact .cons ⟨rfl, hd⟩ .nil
    | cons q t ih => exact .cons q ih
  unfold L2.putK HF.putK
  rw [any h]
  split
  · exact mp h
  · exact ap h
theorem sS_kst {i : Nat} {x : Str} {p tpos pos : Pos} {k e : Expr} {fk fe : Env → O Res} (hu : X.A.units + 1 < cLine) (hN : X.N[i]? = some x) (hv : Vis X.env.scope x) (hd : (x == ("__debug__" : Str)) = false) (hcd : (x == ("__classdict__" : Str)) = false) (hc : notComp e = true)
    (pk : PE X k (TEv Z fk)) (he : PE X e (TEv Z fe)) : PS X (.Assign [.Subscript (.Name x p) k tpos] e pos) (TSv Z fun r => match nth r i with
      | some (.k kvs) => (dat (fe r)).bind fun y => (dat (fk r)).bind fun x => (toI x).bind fun k => if kvs.length < 1000 then .ok (.nx (put r i (.k (putK kvs k y)))) else .no
      | _ => .no) := by
  refine (ps_dput hu (pe_var hN hv hd hcd) (toD pk) (toD he) (sw_no hc)).imp fun D σ H ⟨F, r, R, o⟩ => ?_
  dsimp only at o
  split at o
  · rename_i xs hn
    obtain ⟨a, vs, h1, h0, hf, h2, h3⟩ := R.dct hn
    refine ⟨F, r, R, ((Out.bind.mp o).later R.ext.hh).mono fun y _ hy v F1 H1 e1 dp => ⟨.ref a, h1, F1, r, R.step e1, ((Out.bind.mp hy).later (R.ext.hh.trans e1.hh)).mono fun z _ hz w F2 H2 e2 dp2 => ?_⟩⟩
    cases z with
    | int k =>
      cases dp2
      have hz' : Out Z Z.H0 (if xs.length < 1000 then .ok (.nx (put r i (.k (putK xs k y)))) else .no) (FlOk Z F D) := hz
      split at hz'
      · rename_i hl
        have e12 := e1.trans e2
        have hlen := h3.len
        refine ⟨a, _, rfl, DPut.k (k := Sum.inl k) (e12.hh _ _ h2) (by rw [hlen]; exact small1000 (Nat.le_of_lt hl)), hz' σ F2 _ ?_ e12.ff⟩
        exact (R.step e12).write (x := .k xs) ((nth_iff r i _).mp hn) trivial h1 (x' := .k (putK xs k y)) trivial
          ⟨a, _, rfl, h0, (e12.nw a (by rw [h2]; simp)).trans hf, upd_same, (h3.up e12.ff).put (Dp.up dp e2.ff)⟩
      · exact hz'.elim
    | _ => exact hz.elim
  · exact o.elim
theorem sS_kds {i : Nat} {x : Str} {p dp pos : Pos} {k e : Expr} {fk fe : Env → O Res} (hn : X.N.Nodup) (hN : X.N[i]? = some x) (hx : L2.Loc X.env.scope x) (hf : X.fn x = true ∨ X.env.scope.names.lookup x = some .local)
    (pk : PE X k (TEv Z fk)) (he : PE X e (TEv Z fe)) : PS X (.Assign [.Name x p] (.Dict [some k] [e] dp) pos) (TSv Z fun r => (dat (fk r)).bind fun x => (dat (fe r)).bind fun y => (toI x).bind fun k => .ok (.nx (put r i (.k [(k, y)])))) := by
  refine (ps_set hn hN hx (pe_disp (pps_cons (toD pk) (toD he) pps_nil) rfl rfl (by simp) (by simp)) rfl hf).imp fun D σ H ⟨F, r, R, o⟩ => ?_
  intro q hq
  have e0 : Ext F H F (upd H q (.dK [])) := Ext.new R.fh hq
  refine ⟨F, r, R.step e0, ((Out.bind.mp o).later (R.ext.hh.trans e0.hh)).mono fun a _ ha v F1 H1 e1 dp1 => ⟨F1, r, (R.step e0).step e1, ((Out.bind.mp ha).later ((R.ext.hh.trans e0.hh).trans e1.hh)).mono fun b _ hb w F2 H2 e2 dp2 => ?_⟩⟩
  cases a with
  | int k =>
    cases dp1
    have hb' : FlOk Z F D (.nx (put r i (.k [(k, b)]))) := hb
    have e12 := e1.trans e2
    have ea := e0.trans e12
    refine ⟨e12.hh _ _ upd_same, [(Sum.inl k, w)], rfl, by simp, ?_⟩
    have f2 : F2 q = none := (e12.nw q (by rw [upd_same]; simp)).trans (Ext.pre R.fh hq)
    have eb : Ext F H F2 (upd H2 q (.dK (mergeK [] [(Sum.inl k, w)]))) := ⟨ea.ff, fun c u z => by
      rw [upd_ne (fun y => by rw [y, hq] at z; cases z)]
      exact ea.hh c u z, fun c u z => by
      rw [upd_ne (fun y => by rw [y, f2] at z; cases z)]
      exact e2.fh c u z, ea.nw⟩
    exact hb' _ F2 _ (R.putE (x := .k [(k, b)]) eb ⟨q, _, rfl, hq, f2, upd_same, .cons ⟨rfl, dp2⟩ .nil⟩) ea.ff
  | _ => exact hb.elim

/-! errors -/
theorem sS_rse {c : Nat} {x m : Str} {j : Nat} {p p2 pos pos' : Pos} {B newId initId : String} {bmB : List Value} (hc : X.calm = true) (tk : Takes X (fun cls d _ H => Z.E cls d H)) (E : ExcBaseFacts B newId initId bmB) (q : PySem.W.excIn X.K (Z.cls c) bmB newId = true)
    (gC : X.mg x = some (.ref (Z.cls c))) (kC : PySem.W.keepIn X.K (.ref (Z.cls c)) = true) (ra : Raises X (.ref (Z.cls c))) (hg : Gl X x) (hdb : (x == ("__debug__" : Str)) = false) :
    PS X (.Raise (some (.Call (.Name x p) [.Constant (.str m) j p2] [] pos')) none pos) (TSv Z fun _ => .ex c) :=
  (ps_raise hc tk (pmk_own E q gC kC ra hg hdb)).imp fun D σ H ⟨F, r, R, o⟩ => o H R.ext.hh
end
end HF

set_option Elab.async false
set_option linter.all false
set_option maxRecDepth 100000
set_option maxHeartbeats 8000000
/-! ### O, more: a loop over what a def tells of the last item of a list, which is taken off -/
namespace HF
open PySem PySem.Spec PyProof.Rows L2
section
variable {X : Cx} {Z : Fx}
theorem loop_from {tgt : List Nat} {fb : Env → O Flow} {D : Ends} {σ : L2.St} {r : Env} {F1 H1 : Hp} {J : L2.It} {ds : List PyData} (R : Rel Z σ r F1 H1) (w : Wk Z.K F1 F1 J ds) (hd : Out Z Z.H0 (forL tgt fb ds r) (FlOk Z F1 D)) :
    ∃ W : Nat → Nat → L2.St → Hp → Prop, (∃ m, W 0 m σ H1) ∧ ∀ i m σ H, W i m σ H → (J.stop i H ∧ D.nx σ H) ∨ (J.go i H ∧ ∃ N : L2.St → Hp → Prop, (∀ σ' H', N σ' H' → ∃ m', m' < m ∧ W (i + 1) m' σ' H') ∧
      ∀ x H', J.yld i H x H' → gOf Z.K tgt x σ H' fun σ2 H2 => TSv Z fb { D with nx := N, ct := N, bk := D.nx } σ2 H2) := by
  let P : Nat → L2.St → Hp → Prop := fun i σ' H' => ∃ F' r', Rel Z σ' r' F' H' ∧ Same F1 F' ∧ Out Z Z.H0 (forL tgt fb (ds.drop i) r') (FlOk Z F' D)
  refine ⟨fun i m σ' H' => m = ds.length - i ∧ i ≤ ds.length ∧ P i σ' H', ⟨ds.length, by simp, Nat.zero_le _, F1, r, R, .refl _, ?_⟩, ?_⟩
  · rw [List.drop_zero]
    exact hd
  · rintro i m σ' H' ⟨rfl, hle, F', r', R', s', o'⟩
    obtain ⟨ws, wg⟩ := w H' (s'.trans R'.fh)
    by_cases hlt : i < ds.length
    · have hdi : ds[i]? = some ds[i] := List.getElem?_eq_getElem hlt
      obtain ⟨hgo, hy⟩ := wg i ds[i] hdi
      refine .inr ⟨hgo, P (i + 1), fun σ2 H2 q => ⟨_, by omega, rfl, hlt, q⟩, fun x Hn hyl => ?_⟩
      obtain ⟨F3, e3, dx⟩ := hy x Hn hyl F' s' R'.fh
      rw [List.drop_eq_getElem_cons hlt] at o'
      simp only [forL] at o'
      obtain ⟨r1, eb, k⟩ := (Out.bind.mp o').of_nx (bindT_nx _ _ _)
      refine gOf_ok (R'.step e3) dx eb fun σ3 R3 _ => ⟨F3, r1, R3, (Out.bind.mp k).mono fun fl _ hf => ?_⟩
      cases fl with
      | nx r2 => exact fun σ4 F4 H4 R4 s4 => ⟨F4, r2, R4, (s'.trans e3.ff).trans s4, hf.mono fun fl _ q => q.up (e3.ff.trans s4)⟩
      | rt v => exact fun v' F4 H4 e4 rep => hf v' F4 H4 e4 rep
    · have e : i = ds.length := by omega
      subst e
      refine .inl ⟨ws, ?_⟩
      rw [List.drop_length] at o'
      exact o' σ' F' H' R' (.refl _)
theorem DpAll.dropLast {K : PySem.W.Frag} {F : Hp} : ∀ {vs : List V} {ds : List PyData}, DpAll K F vs ds → DpAll K F vs.dropLast ds.dropLast
  | [], [], .nil => .nil
  | [_], [_], .cons _ .nil => .nil
  | _ :: _ :: _, _ :: _ :: _, .cons h (.cons h2 h3) => .cons h (DpAll.dropLast (.cons h2 h3))
theorem last_get {α : Type} : ∀ {l : List α} {d : α}, l.getLast? = some d → l[l.length - 1]? = some d := by
  intro l d h
  rw [List.getLast?_eq_getElem?] at h
  exact h
variable {i : Nat} {x y : Str} {p py apos cpos pos pos2 : Pos} {a : Expr} {fa : Env → O Res}
def frpF (fa : Env → O Res) (g : List Res → O Res) (tgt : List Nat) (fb : Env → O Flow) (i : Nat) (r : Env) : O Flow := match nth r i with
  | some (.l xs) => (match xs.getLast? with
    | some d => (dat (fa r)).bind fun d0 => (O.noex (g [.v d0, .v d])).bind fun y => (Res.dat y).bind fun y => (lstItems y).bind fun ys => forL tgt fb ys (put r i (.l xs.dropLast))
    | none => .no)
  | _ => .no
theorem sS_frp {tg : Expr} {body : List Stmt} {tgt : List Nat} {fb : Env → O Flow} {f : Addr} {fd : FuncData} {ps : List Str} {k : Nat} {g : List Res → O Res}
    (hp : PassesOwn (model X.prog X.w) X.A X.env X.xe) (hc : X.calm = true) (hKK : X.K = Z.K)
    (Fn : FnOk X.prog X.w X.K X.mg X.base (L2.CX X.prog X.w) k f fd ps (spF Z.K Z.cls ps.length g)) (hr : Room k X.A) (hg : Gl X x) (hm : X.mg x = some (.ref f)) (hk : PySem.W.keepIn X.K (.ref f) = true) (hb : Binds X.K fd ps [])
    (hx : Passes (L2.CX X.prog X.w) X Z.E) (hgn : ∀ as, g as ≠ .no → as.length = ps.length) (hdb : (x == ("__debug__" : Str)) = false)
    (hs : noStar a = true) (ha : PE X a (TEv Z fa)) (hN : X.N[i]? = some y) (hv : Vis X.env.scope y) (hd : (y == ("__debug__" : Str)) = false) (hcd : (y == ("__classdict__" : Str)) = false) (hl : (apos.endLine == cpos.line) = true)
    (hgt : PG X tg (gOf Z.K tgt)) (hbd : PSs X body (TSv Z fb)) :
    PS X (.For tg (.Call (.Name x p) [a, .Call (.Attribute (.Name y py) "pop" apos) [] [] cpos] [] pos) body [] pos2) (TSv Z (frpF fa g tgt fb i)) := by
  have hpop : PE X (.Call (.Attribute (.Name y py) "pop" apos) [] [] cpos) (tBM0 X.K "list" rPop (tVar i)) := pe_bm0 PySem.F.plainAttrs_list PySem.F.slot_list_pop PySem.F.type_list_pop mt_pop (pe_var hN hv hd hcd) rfl hl
  have hpa : PA X [a, .Call (.Attribute (.Name y py) "pop" apos) [] [] cpos] (tCons (TDv Z fun r => dat (fa r)) (tCons (tBM0 X.K "list" rPop (tVar i)) tNil)) := pa_cons (toD ha) (pa_cons hpop pa_nil rfl) (star_ok hs)
  have hcall := pe_call (pos := pos) (p := p) Fn hr hg hm hk hb .nil hx hpa hdb (star_ok hs) rfl
  refine (ps_for hp hc (pi_list hcall) hgt hbd (by intro x; rfl)).imp fun D σ H ⟨F, r, R, o⟩ => ?_
  unfold frpF at o
  split at o
  · rename_i xs hn
    split at o
    · rename_i d hlast
      obtain ⟨b, vs, h1, h0, hf, h2, h3⟩ := R.lst hn
      refine ⟨F, r, R, ((Out.bind.mp o).later R.ext.hh).mono fun d0 _ hd0 v0 F1 H1 e1 dp0 => ?_⟩
      have h2' := e1.hh _ _ h2
      have hf1 : F1 b = none := (e1.nw b (by rw [h2]; simp)).trans hf
      have h3' := DpAll.up h3 e1.ff
      have hxl := last_get hlast
      obtain ⟨v1, hv1, dp1⟩ := h3'.getD hxl
      rw [← h3.len] at hv1
      have same2 : Same F1 (upd H1 b (.lst vs.dropLast)) := fun c u q => by
        rw [upd_ne (fun z => by rw [z, hf1] at q; cases q)]
        exact e1.fh c u q
      refine ⟨.ref b, h1, .inl ⟨rfl, vs, SqL.of h2'⟩, b, vs, v1, rfl, rfl, h2', hv1, ?_⟩
      show spF Z.K Z.cls ps.length g [v0, v1] _ _ Z.E
      have R2 : Rel Z σ (HF.put r i (.l xs.dropLast)) F1 (upd H1 b (.lst vs.dropLast)) := (R.step e1).setL (vs := vs) hn h1 h3'.dropLast
      cases q : g [.v d0, .v d] with
      | no => rw [q] at hd0; exact hd0.elim
      | ex c => rw [q] at hd0; exact hd0.elim
      | ok yv =>
        rw [q] at hd0
        refine ⟨F1, [d0, d], ?_, same2, .cons dp0 (.cons dp1 .nil), ?_⟩
        · have := hgn [.v d0, .v d] (by rw [q]; intro z; cases z)
          exact this
        · show (match g [.v d0, .v d] with
            | .ok x => Give Z.K F1 _ _ x
            | .ex c => _
            | .no => False)
          rw [q]
          intro v F' H' e' rep
          have hd1 : Out Z Z.H0 ((Res.dat yv).bind fun y => (lstItems y).bind fun ys => forL tgt fb ys (put r i (.l xs.dropLast))) (FlOk Z F D) := hd0
          cases qd : yv.dat with
          | no => rw [qd] at hd1; exact hd1.elim
          | ex c => cases yv <;> cases qd
          | ok dd =>
            rw [qd] at hd1
            obtain ⟨F2, e2, s2, dp⟩ := rep.freeze e' qd
            cases dd with
            | list ys =>
              cases dp with
              | lst q1 q2 =>
                have ff : Same F F2 := e1.ff.trans e2.ff
                have hloop : Out Z Z.H0 (forL tgt fb ys (put r i (.l xs.dropLast))) (FlOk Z F2 D) := Out.mono (show Out Z Z.H0 (forL tgt fb ys (put r i (.l xs.dropLast))) (FlOk Z F D) from hd1) fun fl _ z => z.up ff
                have hw := wk_list (K := X.K) q1 (by rw [hKK]; exact q2)
                exact ⟨_, rfl, ⟨_, SqL.of (e2.fh _ _ q1)⟩, loop_from (R2.step e2) (by rw [hKK] at hw ⊢; exact hw) hloop⟩
            | _ => exact hd1.elim
    · exact o.elim
  · exact o.elim
end
end HF

set_option Elab.async false
set_option linter.all false
set_option maxRecDepth 100000
set_option maxHeartbeats 16000000
/-! ### P: does a small statement match the syntax; statements are told rightly -/
namespace HF
open PySem PySem.Spec PyProof.Rows L2

structure GoodS (X : Cx) (Z : Fx) (N fs gs cs : List Str) (sc : Scope) (cl : Nat → List Res → O Res) (G : List PyData) (k : Nat) : Prop where
  g : Good X Z N fs gs sc cl G k
  fn : ∀ x, X.fn x = true
  own : PassesOwn (model X.prog X.w) X.A X.env X.xe
  tk : Takes X (fun cls d _ H => Z.E cls d H)
  cls : ∀ (c : Nat) x, x ≠ ("" : Str) → cs[c]? = some x → ∃ B newId initId bmB, ExcBaseFacts B newId initId bmB ∧ PySem.W.excIn X.K (Z.cls c) bmB newId = true ∧ X.mg x = some (.ref (Z.cls c)) ∧ PySem.W.keepIn X.K (.ref (Z.cls c)) = true ∧ Raises X (.ref (Z.cls c))

def isL (sc : Scope) (x : Str) : Bool := decide (sc.names.lookup x = some .local)
/-- name = v: the store is not drawn into a comprehension, or it is as expected -/
def setOk (sc : Scope) (x : Str) (py : Pos) (v : Expr) : Bool := match v with
  | .ListComp _ _ scope pos => if isL sc x then (py.line == pos.line) && !(scope.names.any fun (n, k) => n == x && (k == .local || k == .cell)) && decide (sc.kind = .function) else true
  | .SetComp .. => false
  | .DictComp .. => false
  | _ => true
def noSwap (tg v : Expr) : Bool := match v with
  | .Tuple .. => (match tg with
    | .Tuple ts _ _ => !(ts.length == 2 || ts.length == 3)
    | _ => false)
  | _ => true
/-- some name of a target is a cell -/
def isCellT (sc : Scope) (t : Expr) : Bool := match t with
  | .Name x _ => decide (sc.names.lookup x = some .cell)
  | _ => false
def cellT (sc : Scope) (tg : Expr) : Bool := match tg with
  | .Tuple ts _ _ => ts.any (isCellT sc)
  | _ => false
def parNames (N : List Str) (sc : Scope) (l : Nat) : List Nat → List Expr → Bool
  | [], [] => true
  | i :: is, .Name x p :: es => nameIs N i x && isL sc x && (p.line == l) && parNames N sc l is es
  | _, _ => false
def headLine (ts : List Expr) : Nat := (ts.head?.map (·.pos.line)).getD 0
def parOk (N : List Str) (sc : Scope) (is : List Nat) (ts vs : List Expr) : Bool :=
  decide (is.Nodup) && (is.length == 2 || is.length == 3) && parNames N sc (headLine ts) is ts && (vs.length == ts.length) && decide (sc.kind = .function) && vs.all noStar && !(vs.all (foldedForSure 8)) && !(vs.all (constantsAlone 8))
section
variable (N fs gs cs : List Str)
mutual
def chkS : S → Scope → Stmt → Bool
  | .set i e, sc, st => (match st with
    | .Assign [.Name x py] v _ => nameIs N i x && isLoc sc x && setOk sc x py v && chk N fs gs e sc v
    | _ => false)
  | .sef i e, sc, st => (match st with
    | .Assign [.Name x py] v _ => nameIs N i x && isLoc sc x && setOk sc x py v && chk N fs gs e sc v
    | _ => false)
  | .unp is e, sc, st => (match st with
    | .Assign [tg] v _ => decide (2 ≤ is.length) && tgtOk N sc is tg && notComp v && (noSwap tg v || cellT sc tg) && chk N fs gs e sc v
    | _ => false)
  | .par is _ es, sc, st => (match st with
    | .Assign [.Tuple ts _ _] (.Tuple vs _ _) _ => parOk N sc is ts vs && chkEs N fs gs es sc vs
    | _ => false)
  | .app i e, sc, st => (match st with
    | .Expr (.Call (.Attribute (.Name x _) m apos) [y] [] cpos) _ => decide (m = ("append" : Str)) && (apos.endLine == cpos.line) && nameIs N i x && isVis sc x && okName x && noStar y && chk N fs gs e sc y
    | _ => false)
  | .ext i e, sc, st => (match st with
    | .Expr (.Call (.Attribute (.Name x _) m apos) [y] [] cpos) _ => decide (m = ("extend" : Str)) && (apos.endLine == cpos.line) && nameIs N i x && isVis sc x && okName x && noStar y && chk N fs gs e sc y
    | _ => false)
  | .six i a b, sc, st => (match st with
    | .Assign [.Subscript (.Name x _) y _] v _ => nameIs N i x && isVis sc x && okName x && notSlice y && notComp v && chk N fs gs a sc y && chk N fs gs b sc v
    | _ => false)
  | .kst i a b, sc, st => (match st with
    | .Assign [.Subscript (.Name x _) y _] v _ => nameIs N i x && isVis sc x && okName x && notComp v && chk N fs gs a sc y && chk N fs gs b sc v
    | _ => false)
  | .kds i a b, sc, st => (match st with
    | .Assign [.Name x _] (.Dict [some y] [v] _) _ => nameIs N i x && isLoc sc x && chk N fs gs a sc y && chk N fs gs b sc v
    | _ => false)
  | .exp e, sc, st => (match st with
    | .Expr v _ => notComp v && chk N fs gs e sc v
    | _ => false)
  | .ret e, sc, st => (match st with
    | .Return (some v) _ => chk N fs gs e sc v
    | _ => false)
  | .retv i, sc, st => (match st with
    | .Return (some (.Name x _)) _ => nameIs N i x && isVis sc x && okName x
    | _ => false)
  | .iff c a b, sc, st => (match st with
    | .If t x y _ => tstOk t && chk N fs gs c sc t && chkSs a sc x && chkSs b sc y
    | _ => false)
  | .fr tgt src body, sc, st => (match st with
    | .For tg it b [] _ => tgtOk N sc tgt tg && notSet it && !isEnm src && chk N fs gs src sc it && chkSs body sc b
    | _ => false)
  | .whl c body, sc, st => (match st with
    | .While t b [] _ => tstOk t && chk N fs gs c sc t && chkSs body sc b
    | _ => false)
  | .rse c, sc, st => (match st with
    | .Raise (some (.Call (.Name x _) [.Constant (.str _) _ _] [] _)) none _ => nameIs cs c x && isGl sc x && okName x
    | _ => false)
  | .frz _ s, sc, st => chkS s sc st
  | .frp tgt f es i body, sc, st => (match es with
    | .cons a .nil => (match st with
      | .For tg (.Call (.Name x _) [u, .Call (.Attribute (.Name y _) m apos) [] [] cpos] [] _) b [] _ => tgtOk N sc tgt tg && nameIs fs f x && isGl sc x && okName x && noStar u && chk N fs gs a sc u && nameIs N i y && isVis sc y && okName y && decide (m = ("pop" : Str)) && (apos.endLine == cpos.line) && chkSs body sc b
      | _ => false)
    | _ => false)
  | .apop .., _, _ => false
  | .pop .., _, _ => false
def chkSs : Ss → Scope → List Stmt → Bool
  | .nil, _, l => l.isEmpty
  | .cons s ss, sc, l => (match l with
    | st :: r => chkS s sc st && chkSs ss sc r
    | [] => false)
end
end

section
variable {N fs gs cs : List Str} {cl : Nat → List Res → O Res} {G : List PyData} {k : Nat} {X : Cx} {Z : Fx} {sc : Scope}
/-- a comprehension's parts -/
theorem cmpParts {el : Expr} {gens : List Comprehension} {scope : Scope} {pos : Pos} (g : Good X Z N fs gs sc cl G k) (e : E) (h : chk N fs gs e sc (.ListComp el gens scope pos) = true) :
    ∃ tgt tg iter ifs, ∃ (fi : Env → O (List PyData)) (fc : Env → O Bool) (fe : Env → O PyData), gens = [⟨tg, iter, ifs, 0⟩] ∧ (∀ r, ev cl G e r = (fi r).bind fun xs => (O.noex (compL tgt fc fe (clr tgt r) xs)).bind fun ds => .ok (.l ds)) ∧
      PI X tg iter (TIp Z fi) ∧ BlkOk X.N X.env.scope scope (ownOf N tgt) ∧
      (∀ (s : Shared) (H : Hp) (C : Addr) (cs : List (Str × Addr)) (fp : List Addr), PG (X.blk s H scope (compEnvC scope cs C X.env) fp) tg (gOf Z.K tgt)) ∧
      (∀ (s : Shared) (H : Hp) (C : Addr) (cs : List (Str × Addr)) (fp : List Addr), PTs (X.blk s H scope (compEnvC scope cs C X.env) fp) ifs (TTv { Z with E := E0 } fc)) ∧
      (∀ (s : Shared) (H : Hp) (C : Addr) (cs : List (Str × Addr)) (fp : List Addr), PE (X.blk s H scope (compEnvC scope cs C X.env) fp) el (TDv { Z with E := E0 } fe)) ∧ notSet iter = true := by
  cases e with
  | comp elt tgt src cond =>
    simp only [chk] at h
    split at h
    · rename_i heq
      cases heq
      rename_i tg iter ifs as
      simp only [Bool.and_eq_true, decide_eq_true_eq] at h
      obtain ⟨⟨⟨⟨⟨⟨⟨rfl, h1⟩, h2⟩, h3⟩, h4⟩, h5⟩, h7⟩, h6⟩ := h
      have snds := fun y (hy : chk N fs gs src sc y = true) => snd src y g hy
      have hi : PI X tg iter (TIp Z (srcV cl G src)) := by
        cases src with
        | rng1 a =>
          obtain ⟨p, u, pos, rfl, q1, q2, q3⟩ := (snds _ h6).2
          exact TIf.p (sI_rng1 (g.gl q1) (g.blt _ (by decide)) q2 q3)
        | rng2 a b =>
          obtain ⟨p, u, v, pos, rfl, q1, q2, q3, q4, q5⟩ := (snds _ h6).2
          exact TIf.p (sI_rng2 (g.gl q1) (g.blt _ (by decide)) q2 q3 q4 q5)
        | enm a =>
          obtain ⟨p, u, pos, rfl, q1, q2, q3⟩ := (snds _ h6).2
          cases tg with
          | Tuple _ _ _ => exact sI_itk g.kk (g.gl q1) (g.blt _ (by decide)) q2 q3
          | _ => cases h7
        | _ => exact sI_p g.kk (pkOf g _ h6 (snds _ h6).1.1)
      refine ⟨tgt, tg, iter, ifs, srcV cl G src, fun r => (dat (ev cl G cond r)).bind toB, fun r => dat (ev cl G elt r), rfl, fun r => ?_, hi, by rw [g.n, g.s]; exact blkOk_by h1, fun s H C cs fp => ?_, fun s H C cs fp => ?_, fun s H C cs fp => ?_, h3⟩
      · cases src <;> (simp only [ev] <;> rfl)
      · exact pgOf (X := X.blk s H scope (compEnvC scope cs C X.env) fp) (N := N) (scope := scope) g.calm g.kk (by show X.N.Nodup; rw [g.n]; exact g.nd) g.n (fun x hx => blk_loc (X := X) (s := s) (H := H) (scope := scope) (C := C) (cs := cs) (fp := fp) x hx) tgt tg h2
      · have gb := g.blk s H scope C cs fp
        split at h5
        · have ec : (fun r : Env => (dat (ev cl G cond r)).bind toB) = fun _ => .ok true := by
            funext r
            cases cond with
            | cst d =>
              cases d with
              | bool b =>
                cases b with
                | true => simp only [ev]; rfl
                | false => cases h5
              | _ => cases h5
            | _ => cases h5
          rw [ec]
          refine ⟨fun pins s' σ H' Q I ⟨F, r, R, o⟩ => pts_nil.run pins s' σ H' Q I (o F H' (.refl R.fh))⟩
        · simp only [Bool.and_eq_true] at h5
          exact pts_one ((snd cond _ gb h5.2).1.2 h5.1)
        · cases h5
      · exact toD (snd elt _ (g.blk s H scope C cs fp) h4).1.1
    · cases h
  | b1 b a => simp only [chk] at h; cases h
  | _ => first | (simp only [chk] at h; cases h) | (simp [chk] at h)
theorem lnm {x : Str} (h : isL sc x = true) : sc.names.lookup x = some .local := of_decide_eq_true h
theorem sw_cell {elt : Expr} {gs : List Comprehension} {scope : Scope} {pos py : Pos} {y : Str} {l : Nat} {env : PySem.Env} (hy : env.scope.names.lookup y = some .cell) : swapsWith (.ListComp elt gs scope pos) (some (.Name y py)) l env = pure false := by
  have ky : env.kindOf y = some .cell := hy
  unfold swapsWith
  have e : ((some NameKind.cell : Option NameKind) == some .local) = false := by decide
  simp only [ky, e, Bool.and_false, Bool.false_and]
/-- name = v -/
theorem asgOf (g : GoodS X Z N fs gs cs sc cl G k) {i : Nat} {e : E} {x : Str} {py pos : Pos} {v : Expr} (h1 : nameIs N i x = true) (h2 : isLoc sc x = true) (h3 : setOk sc x py v = true) (h4 : chk N fs gs e sc v = true) :
    ∃ te, PS X (.Assign [.Name x py] v pos) (tAsg te (gName i)) ∧ ∀ σ H Q, TEv Z (ev cl G e) σ H Q → te σ H Q := by
  have nd : X.N.Nodup := by rw [g.g.n]; exact g.g.nd
  have lc : L2.Loc X.env.scope x := by rw [g.g.s]; exact loc_of h2
  by_cases hc : notComp v = true
  · exact ⟨_, ps_set nd (g.g.nm h1) lc (snd e _ g.g h4).1.1 (sw_no hc) (.inl (g.fn x)), fun _ _ _ q => q⟩
  · cases v with
    | ListComp el gens scope lpos =>
      obtain ⟨tgt, tg, iter, ifs, fi, fc, fe, rfl, ee, p1, p2, p3, p4, p5, p6⟩ := cmpParts g.g e h4
      by_cases q1 : isL sc x = true
      rotate_left
      · have qc : X.env.scope.names.lookup x = some .cell := by
          rw [g.g.s]
          rcases loc_of h2 with z | z
          · exact absurd (decide_eq_true z) q1
          · exact z
        exact ⟨_, ps_set nd (g.g.nm h1) lc (snd e _ g.g h4).1.1 (sw_cell qc) (.inl (g.fn x)), fun _ _ _ q => q⟩
      simp only [setOk, q1, if_true, Bool.and_eq_true, Bool.not_eq_true', decide_eq_true_eq] at h3
      obtain ⟨⟨q2, q3⟩, q4⟩ := h3
      have ql : X.env.scope.names.lookup x = some .local := by rw [g.g.s]; exact lnm q1
      refine ⟨_, ps_setLc g.g.calm nd (g.g.nm h1) ql (sw_true (by rw [g.g.s]; exact q4) ql q2 q3) p1 p2 p3 p4 p5 (by intro z; cases iter <;> first | rfl | cases p6), fun σ H Q q => ?_⟩
      have eq : ev cl G e = fun r => (fi r).bind fun xs => (O.noex (compL tgt fc fe (clr tgt r) xs)).bind fun ds => .ok (.l ds) := funext ee
      rw [eq] at q
      exact lc_imp (own_snd N tgt) σ H Q q
    | SetComp _ _ _ _ => cases h3
    | DictComp _ _ _ _ _ => cases h3
    | _ => exact absurd rfl hc
theorem fn_loc (g : GoodS X Z N fs gs cs sc cl G k) (x : Str) (h : isLoc sc x = true) : L2.Loc X.env.scope x ∧ (X.fn x = true ∨ X.env.scope.names.lookup x = some .local) := by
  rw [g.g.s]
  exact ⟨loc_of h, .inl (g.fn x)⟩
theorem sndR (g : Good X Z N fs gs sc cl G k) : ∀ (es : Es) (l : List Expr), chkEs N fs gs es sc l = true → PA X l (TRv Z (evr cl G es))
  | .nil, l, h => by
    cases l with
    | nil =>
      have e : evr cl G .nil = fun _ => .ok [] := by funext r; simp only [evr]
      rw [e]
      exact sR_nil
    | cons _ _ => cases h
  | .cons a es, l, h => by
    cases l with
    | nil => cases h
    | cons x l =>
      simp only [chkEs, Bool.and_eq_true] at h
      have e : evr cl G (.cons a es) = fun r => (ev cl G a r).bind fun d => (evr cl G es r).bind fun ds => .ok (d :: ds) := by funext r; simp only [evr]
      rw [e]
      exact sR_cons h.1.1 (snd a _ g h.1.2).1.1 (sndR g es l h.2)
end
end HF

set_option Elab.async false
set_option linter.all false
set_option maxRecDepth 100000
set_option maxHeartbeats 16000000
/-! ### Q: the statements' theorem -/
namespace HF
open PySem PySem.Spec PyProof.Rows L2

section
variable {N fs gs cs : List Str} {cl : Nat → List Res → O Res} {G : List PyData} {k : Nat}
theorem noStar_any : ∀ vs : List Expr, vs.all noStar = true → (vs.any fun | .Starred .. => true | _ => false) = false
  | [], _ => rfl
  | v :: vs, h => by
    simp only [List.all_cons, Bool.and_eq_true] at h
    rw [List.any_cons, noStar_any vs h.2]
    cases v <;> first | rfl | cases h.1
theorem swap2 {env : PySem.Env} {x y : Str} {px py pt pt2 : Pos} {kt k2 : Nat} {vs : List Expr} (hk : env.scope.kind = .function) (hx : env.scope.names.lookup x = some .local) (hy : env.scope.names.lookup y = some .local) (hxy : x ≠ y) (hl : (py.line == px.line) = true)
    (hv : vs.length = 2) (hs : vs.all noStar = true) (h1 : vs.all (foldedForSure 8) = false) (h2 : vs.all (constantsAlone 8) = false) :
    swappedStores [.Tuple [.Name x px, .Name y py] kt pt] (.Tuple vs k2 pt2) env = pure (some [x, y]) := by
  have kx : env.kindOf x = some .local := hx
  have ky : env.kindOf y = some .local := hy
  have hb : env.blockKind = .function := by unfold Env.blockKind; rw [hk]; rfl
  unfold swappedStores
  simp only [hb, hv, noStar_any vs hs, h1, h2, kx, ky, Expr.pos, List.head?_cons, Option.map_some, Option.getD_some, List.filterMap_cons, List.filterMap_nil, hl, beq_self_eq_true, Bool.and_true, if_true]
  have ne : (y == x) = false := beq_eq_false_iff_ne.mpr (Ne.symm hxy)
  have ne2 : (x == y) = false := beq_eq_false_iff_ne.mpr hxy
  simp [List.eraseDups_cons, ne, ne2]
  intro u hu hb
  have q := List.all_eq_true.mp hs u hu
  cases u with
  | Starred _ _ => simp only [noStar, Bool.false_eq_true] at q
  | _ => simp only [Bool.false_eq_true] at hb
theorem swap3 {env : PySem.Env} {x y z : Str} {px py pz pt pt2 : Pos} {kt k2 : Nat} {vs : List Expr} (hk : env.scope.kind = .function) (hx : env.scope.names.lookup x = some .local) (hy : env.scope.names.lookup y = some .local) (hz : env.scope.names.lookup z = some .local)
    (hxy : x ≠ y) (hxz : x ≠ z) (hyz : y ≠ z) (hl : (py.line == px.line) = true) (hl2 : (pz.line == px.line) = true)
    (hv : vs.length = 3) (hs : vs.all noStar = true) (h1 : vs.all (foldedForSure 8) = false) (h2 : vs.all (constantsAlone 8) = false) :
    swappedStores [.Tuple [.Name x px, .Name y py, .Name z pz] kt pt] (.Tuple vs k2 pt2) env = pure (some [x, y, z]) := by
  have kx : env.kindOf x = some .local := hx
  have ky : env.kindOf y = some .local := hy
  have kz : env.kindOf z = some .local := hz
  have hb : env.blockKind = .function := by unfold Env.blockKind; rw [hk]; rfl
  unfold swappedStores
  simp only [hb, hv, noStar_any vs hs, h1, h2, kx, ky, kz, Expr.pos, List.head?_cons, Option.map_some, Option.getD_some, List.filterMap_cons, List.filterMap_nil, hl, hl2, beq_self_eq_true, Bool.and_true, if_true]
  have ne : (y == x) = false := beq_eq_false_iff_ne.mpr (Ne.symm hxy)
  have ne2 : (z == x) = false := beq_eq_false_iff_ne.mpr (Ne.symm hxz)
  have ne3 : (z == y) = false := beq_eq_false_iff_ne.mpr (Ne.symm hyz)
  simp [List.eraseDups_cons, ne, ne2, ne3]
  intro u hu hb
  have q := List.all_eq_true.mp hs u hu
  cases u with
  | Starred _ _ => simp only [noStar, Bool.false_eq_true] at q
  | _ => simp only [Bool.false_eq_true] at hb
theorem nm_ne {i j : Nat} {x y : Str} (nd : N.Nodup) (hi : nameIs N i x = true) (hj : nameIs N j y = true) (h : i ≠ j) : x ≠ y := by
  have a : N[i]? = some x := of_decide_eq_true hi
  have b : N[j]? = some y := of_decide_eq_true hj
  intro e
  subst e
  exact h (nodup_ix nd a b)
theorem parNames_cons {sc : Scope} {l i : Nat} {is : List Nat} {ts : List Expr} (h : parNames N sc l (i :: is) ts = true) : ∃ x p r, ts = .Name x p :: r ∧ nameIs N i x = true ∧ isL sc x = true ∧ (p.line == l) = true ∧ parNames N sc l is r = true := by
  match ts, h with
  | .Name x p :: r, h =>
    simp only [parNames, Bool.and_eq_true] at h
    exact ⟨x, p, r, rfl, h.1.1.1, h.1.1.2, h.1.2, h.2⟩
theorem parNames_nil {sc : Scope} {l : Nat} {ts : List Expr} (h : parNames N sc l [] ts = true) : ts = [] := by
  match ts, h with
  | [], _ => rfl
theorem fm_lt {α β : Type} {f : α → Option β} : ∀ {l : List α} {a : α}, a ∈ l → f a = none → (l.filterMap f).length < l.length
  | [], a, h, _ => by simp at h
  | b :: l, a, h, hf => by
    have le := List.length_filterMap_le f l
    rcases List.mem_cons.mp h with e | e
    · subst e
      rw [List.filterMap_cons_none hf, List.length_cons]
      omega
    · have ih := fm_lt e hf
      cases hb : f b with
      | none => rw [List.filterMap_cons_none hb, List.length_cons]; omega
      | some c => rw [List.filterMap_cons_some hb, List.length_cons, List.length_cons]; omega
theorem parOf {X : Cx} {Z : Fx} {sc : Scope} (g : GoodS X Z N fs gs cs sc cl G k) {is fz : List Nat} {ts vs : List Expr} {kt k2 : Nat} {pt pt2 pos : Pos} (es : Es) (h : parOk N sc is ts vs = true) (he : chkEs N fs gs es sc vs = true) :
    PS X (.Assign [.Tuple ts kt pt] (.Tuple vs k2 pt2) pos) (TSv Z fun r => (evr cl G es r).bind fun xs => (bindR is xs r).bind fun r' => .ok (.nx (frzL fz r'))) := by
  simp only [parOk, Bool.and_eq_true, Bool.not_eq_true', decide_eq_true_eq, Bool.or_eq_true, beq_iff_eq] at h
  obtain ⟨⟨⟨⟨⟨⟨⟨h1, h2⟩, h3⟩, h4⟩, h5⟩, h6⟩, h7⟩, h8⟩ := h
  have nd : X.N.Nodup := by rw [g.g.n]; exact g.g.nd
  have hk : X.env.scope.kind = .function := by rw [g.g.s]; exact h5
  have lk : ∀ {x : Str}, isL sc x = true → X.env.scope.names.lookup x = some .local := fun h => by rw [g.g.s]; exact lnm h
  rcases h2 with h2 | h2
  · match is, h2, h1 with
    | [i, j], _, h1 =>
      obtain ⟨x, px, r1, rfl, a1, a2, a3, h3⟩ := parNames_cons h3
      obtain ⟨y, py, r2, rfl, b1, b2, b3, h3⟩ := parNames_cons h3
      obtain rfl := parNames_nil h3
      · have b3 : (py.line == px.line) = true := b3
        have hij : i ≠ j := by simpa using h1
        match vs, h4 with
        | [u, v], h4 =>
          refine (ps_par g.g.calm nd (g.g.nm a1) (g.g.nm b1) hij (lk a2) (lk b2) (sndR g.g es _ he) (swap2 hk (lk a2) (lk b2) (nm_ne g.g.nd a1 b1 hij) b3 rfl h6 h7 h8) rfl).imp fun D σ H q => ?_
          refine par_fin q fun vs H' hl hd => ?_
          match vs, hl with
          | [v, w], _ => exact ⟨v, w, rfl, hd⟩
  · match is, h2, h1 with
    | [i, j, l], _, h1 =>
      obtain ⟨x, px, r1, rfl, a1, a2, a3, h3⟩ := parNames_cons h3
      obtain ⟨y, py, r2, rfl, b1, b2, b3, h3⟩ := parNames_cons h3
      obtain ⟨z, pz, r3, rfl, c1, c2, c3, h3⟩ := parNames_cons h3
      obtain rfl := parNames_nil h3
      · have b3 : (py.line == px.line) = true := b3
        have c3 : (pz.line == px.line) = true := c3
        have hh : (i ≠ j ∧ i ≠ l) ∧ j ≠ l := by simpa using h1
        match vs, h4 with
        | [u, v, w], h4 =>
          refine (ps_par3 g.g.calm nd (g.g.nm a1) (g.g.nm b1) (g.g.nm c1) hh.1.1 hh.1.2 hh.2 (lk a2) (lk b2) (lk c2) (sndR g.g es _ he)
            (swap3 hk (lk a2) (lk b2) (lk c2) (nm_ne g.g.nd a1 b1 hh.1.1) (nm_ne g.g.nd a1 c1 hh.1.2) (nm_ne g.g.nd b1 c1 hh.2) b3 c3 rfl h6 h7 h8) rfl).imp fun D σ H q => ?_
          refine par_fin q fun vs H' hl hd => ?_
          match vs, hl with
          | [v, w, z], _ => exact ⟨v, w, z, rfl, hd⟩

variable {fuel : Nat}
mutual
theorem sndS : ∀ (s : S) {X : Cx} {Z : Fx} {sc : Scope} (st : Stmt), GoodS X Z N fs gs cs sc cl G k → chkS N fs gs cs s sc st = true → PS X st (TSv Z (ex cl G fuel s))
  | .set i e, X, Z, sc, st, g, h => by
    simp only [chkS] at h
    split at h
    · simp only [Bool.and_eq_true] at h
      obtain ⟨⟨⟨h1, h2⟩, h3⟩, h4⟩ := h
      obtain ⟨te, p, q⟩ := asgOf g h1 h2 h3 h4
      exact PS.cg (fun r => by simp only [ex]) (sS_set p q)
    · cases h
  | .sef i e, X, Z, sc, st, g, h => by
    simp only [chkS] at h
    split at h
    · simp only [Bool.and_eq_true] at h
      obtain ⟨⟨⟨h1, h2⟩, h3⟩, h4⟩ := h
      obtain ⟨te, p, q⟩ := asgOf g h1 h2 h3 h4
      exact PS.cg (fun r => by simp only [ex]) (sS_sef p q)
    · cases h
  | .unp is e, X, Z, sc, st, g, h => by
    simp only [chkS] at h
    split at h
    · rename_i tg v pos
      simp only [Bool.and_eq_true, decide_eq_true_eq] at h
      obtain ⟨⟨⟨⟨h1, h2⟩, h3⟩, h4⟩, h5⟩ := h
      match is, h1, h2 with
      | i :: j :: is, _, h2 =>
        have nd : X.N.Nodup := by rw [g.g.n]; exact g.g.nd
        have hg := pgOf (X := X) (N := N) (scope := sc) g.g.calm g.g.kk nd g.g.n (fn_loc g) (i :: j :: is) tg h2
        match tg, h2, h4, hg with
        | .Tuple ts kt pt, h2, h4, hg =>
          have hw : swappedStores [.Tuple ts kt pt] v X.env = pure none := by
            unfold swappedStores
            cases v with
            | Tuple vs _ _ =>
              rcases Bool.or_eq_true _ _ |>.mp h4 with h4 | h4
              · simp only [noSwap, Bool.not_eq_true'] at h4
                simp only [h4]
                rfl
              · obtain ⟨t0, ht0, hc⟩ := List.any_eq_true.mp (show ts.any (isCellT sc) = true from h4)
                dsimp only
                split
                · rfl
                · split
                  · rfl
                  · split
                    · rfl
                    · rename_i hc3
                      refine absurd ?_ hc3
                      rw [Bool.or_eq_true]
                      left
                      refine bne_iff_ne.mpr (Nat.ne_of_lt (fm_lt ht0 ?_))
                      cases t0 with
                      | Name x px =>
                        have hk : X.env.kindOf x = some .cell := by
                          show X.env.scope.names.lookup x = some .cell
                          rw [g.g.s]
                          exact of_decide_eq_true hc
                        simp only [hk]
                        rfl
                      | _ => rfl
            | _ => rfl
          exact PS.cg (fun r => by simp only [ex] <;> rfl) (sS_unp (ps_asg (toD (snd e _ g.g h5).1.1) hg (sw_sole h3) hw rfl))
    · cases h
  | .par is fz es, X, Z, sc, st, g, h => by
    simp only [chkS] at h
    split at h
    · simp only [Bool.and_eq_true] at h
      exact PS.cg (fun r => by simp only [ex]) (parOf (fz := fz) g es h.1 h.2)
    · cases h
  | .app i e, X, Z, sc, st, g, h => by
    simp only [chkS] at h
    split at h
    · simp only [Bool.and_eq_true, decide_eq_true_eq] at h
      obtain ⟨⟨⟨⟨⟨⟨rfl, h1⟩, h2⟩, h3⟩, h4⟩, h5⟩, h6⟩ := h
      exact PS.cg (fun r => by simp only [ex] <;> rfl) (sS_app (i := i) (g.g.nm h2) (g.g.vis h3) (ok1 h4) (ok2 h4) h1 h5 (snd e _ g.g h6).1.1)
    · cases h
  | .ext i e, X, Z, sc, st, g, h => by
    simp only [chkS] at h
    split at h
    · simp only [Bool.and_eq_true, decide_eq_true_eq] at h
      obtain ⟨⟨⟨⟨⟨⟨rfl, h1⟩, h2⟩, h3⟩, h4⟩, h5⟩, h6⟩ := h
      exact PS.cg (fun r => by simp only [ex] <;> rfl) (sS_ext (i := i) (g.g.nm h2) (g.g.vis h3) (ok1 h4) (ok2 h4) h1 h5 (snd e _ g.g h6).1.1)
    · cases h
  | .six i a b, X, Z, sc, st, g, h => by
    simp only [chkS] at h
    split at h
    · simp only [Bool.and_eq_true, decide_eq_true_eq] at h
      obtain ⟨⟨⟨⟨⟨⟨h1, h2⟩, h3⟩, h4⟩, h5⟩, h6⟩, h7⟩ := h
      exact PS.cg (fun r => by simp only [ex] <;> rfl) (sS_six (i := i) (g.g.nm h1) (g.g.vis h2) (ok1 h3) (ok2 h3) h4 h5 (snd a _ g.g h6).1.1 (snd b _ g.g h7).1.1)
    · cases h
  | .kst i a b, X, Z, sc, st, g, h => by
    simp only [chkS] at h
    split at h
    · simp only [Bool.and_eq_true, decide_eq_true_eq] at h
      obtain ⟨⟨⟨⟨⟨h1, h2⟩, h3⟩, h5⟩, h6⟩, h7⟩ := h
      exact PS.cg (fun r => by simp only [ex] <;> rfl) (sS_kst (i := i) g.g.u1 (g.g.nm h1) (g.g.vis h2) (ok1 h3) (ok2 h3) h5 (snd a _ g.g h6).1.1 (snd b _ g.g h7).1.1)
    · cases h
  | .kds i a b, X, Z, sc, st, g, h => by
    simp only [chkS] at h
    split at h
    · simp only [Bool.and_eq_true, decide_eq_true_eq] at h
      obtain ⟨⟨⟨h1, h2⟩, h6⟩, h7⟩ := h
      have nd : X.N.Nodup := by rw [g.g.n]; exact g.g.nd
      exact PS.cg (fun r => by simp only [ex]) (sS_kds (i := i) nd (g.g.nm h1) (fn_loc g _ h2).1 (fn_loc g _ h2).2 (snd a _ g.g h6).1.1 (snd b _ g.g h7).1.1)
    · cases h
  | .exp e, X, Z, sc, st, g, h => by
    simp only [chkS] at h
    split at h
    · rename_i v pos
      simp only [Bool.and_eq_true] at h
      exact PS.cg (fun r => by simp only [ex]) (sS_exp (e := v) (ps_expr (snd e _ g.g h.2).1.1 (sw_no h.1)))
    · cases h
  | .ret e, X, Z, sc, st, g, h => by
    simp only [chkS] at h
    split at h
    · exact PS.cg (fun r => by simp only [ex]) (sS_ret (snd e _ g.g h).1.1)
    · cases h
  | .retv i, X, Z, sc, st, g, h => by
    simp only [chkS] at h
    split at h
    · simp only [Bool.and_eq_true] at h
      exact PS.cg (fun r => by simp only [ex] <;> rfl) (sS_retv (i := i) (g.g.nm h.1.1) (g.g.vis h.1.2) (ok1 h.2) (ok2 h.2))
    · cases h
  | .iff c a b, X, Z, sc, st, g, h => by
    simp only [chkS] at h
    split at h
    · simp only [Bool.and_eq_true] at h
      obtain ⟨⟨⟨h1, h2⟩, h3⟩, h4⟩ := h
      exact PS.cg (fun r => by simp only [ex] <;> rfl) (sS_if ((snd c _ g.g h2).1.2 h1) (sndSs a _ g h3) (sndSs b _ g h4))
    · cases h
  | .fr tgt src body, X, Z, sc, st, g, h => by
    simp only [chkS] at h
    split at h
    · rename_i tg it b pos
      simp only [Bool.and_eq_true, Bool.not_eq_true'] at h
      obtain ⟨⟨⟨⟨h1, h2⟩, h3⟩, h4⟩, h5⟩ := h
      have snds := snd (cl := cl) (G := G) (k := k) src it g.g h4
      have hi : PI X tg it (TIf Z (its cl G src)) := by
        cases src with
        | rng1 a =>
          obtain ⟨p, u, pos, rfl, q1, q2, q3⟩ := snds.2
          exact sI_rng1 (g.g.gl q1) (g.g.blt _ (by decide)) q2 q3
        | rng2 a b =>
          obtain ⟨p, u, v, pos, rfl, q1, q2, q3, q4, q5⟩ := snds.2
          exact sI_rng2 (g.g.gl q1) (g.g.blt _ (by decide)) q2 q3 q4 q5
        | enm a => cases h3
        | _ => exact sI_f g.g.kk (toD snds.1.1)
      have nd : X.N.Nodup := by rw [g.g.n]; exact g.g.nd
      exact PS.cg (fun r => by simp only [ex]) (sS_for g.own g.g.calm hi (pgOf (X := X) (N := N) (scope := sc) g.g.calm g.g.kk nd g.g.n (fn_loc g) tgt tg h1) (sndSs body _ g h5) h2)
    · cases h
  | .whl c body, X, Z, sc, st, g, h => by
    simp only [chkS] at h
    split at h
    · simp only [Bool.and_eq_true] at h
      obtain ⟨⟨h1, h2⟩, h3⟩ := h
      exact PS.cg (fun r => by simp only [ex] <;> rfl) (sS_while (n := fuel) g.own ((snd c _ g.g h2).1.2 h1) (sndSs body _ g h3))
    · cases h
  | .rse c, X, Z, sc, st, g, h => by
    simp only [chkS] at h
    split at h
    · simp only [Bool.and_eq_true] at h
      obtain ⟨B, ni, ii, bm, q1, q2, q3, q4, q5⟩ := g.cls c _ (ok4 h.2) (of_decide_eq_true h.1.1)
      exact PS.cg (fun r => by simp only [ex]) (sS_rse g.g.calm g.tk q1 q2 q3 q4 q5 (g.g.gl h.1.2) (ok1 h.2))
    · cases h
  | .frz is s, X, Z, sc, st, g, h => by
    have h' : chkS N fs gs cs s sc st = true := by simpa only [chkS] using h
    exact PS.cg (fun r => by simp only [ex]) (sS_frz (is := is) (sndS s st g h'))
  | .frp tgt f es i body, X, Z, sc, st, g, h => by
    simp only [chkS] at h
    split at h
    · rename_i a
      split at h
      · simp only [Bool.and_eq_true, decide_eq_true_eq] at h
        obtain ⟨⟨⟨⟨⟨⟨⟨⟨⟨⟨⟨h1, h2⟩, h3⟩, h4⟩, h5⟩, h6⟩, h7⟩, h8⟩, h9⟩, rfl⟩, h10⟩, h11⟩ := h
        have nd : X.N.Nodup := by rw [g.g.n]; exact g.g.nd
        obtain ⟨ad, fd, ps, q1, q2, q3, q4, q5⟩ := g.g.fn f _ (ok4 h4) (of_decide_eq_true h2)
        refine PS.cg (fun r => ?_) (sS_frp (i := i) g.own g.g.calm g.g.kk q4 g.g.room (g.g.gl h3) q1 q2 q3 g.g.pass q5 (ok1 h4) h5 (snd a _ g.g h6).1.1 (g.g.nm h7) (g.g.vis h8) (ok1 h9) (ok2 h9) h10 (pgOf (X := X) (N := N) (scope := sc) g.g.calm g.g.kk nd g.g.n (fn_loc g) tgt _ h1) (sndSs body _ g h11))
        simp only [frpF, ex, evs]
        cases nth r i with
        | none => rfl
        | some x =>
          cases x with
          | l xs =>
            dsimp only
            cases xs.getLast? with
            | none => rfl
            | some d =>
              dsimp only
              cases dat (ev cl G a r) <;> rfl
          | _ => rfl
      · cases h
    · cases h
  | .apop .., X, Z, sc, st, g, h => by simp only [chkS] at h; cases h
  | .pop .., X, Z, sc, st, g, h => by simp only [chkS] at h; cases h
theorem sndSs : ∀ (ss : Ss) {X : Cx} {Z : Fx} {sc : Scope} (l : List Stmt), GoodS X Z N fs gs cs sc cl G k → chkSs N fs gs cs ss sc l = true → PSs X l (TSv Z (exs cl G fuel ss))
  | .nil, X, Z, sc, l, g, h => by
    cases l with
    | nil =>
      have e : exs cl G fuel .nil = fun r => .ok (.nx r) := by funext r; simp only [exs]
      rw [e]
      exact sS_nil
    | cons _ _ => simp [chkSs] at h
  | .cons s ss, X, Z, sc, l, g, h => by
    cases l with
    | nil => simp [chkSs] at h
    | cons st l =>
      simp only [chkSs, Bool.and_eq_true] at h
      have e : exs cl G fuel (.cons s ss) = fun r => (ex cl G fuel s r).bind fun fl => match fl with
        | .nx r' => exs cl G fuel ss r'
        | .rt v => .ok (.rt v) := by funext r; simp only [exs] <;> rfl
      rw [e]
      exact sS_cons (sndS s st g h.1) (sndSs ss l g h.2)
end
end
end HF

set_option Elab.async false
set_option linter.all false
set_option maxRecDepth 100000
set_option maxHeartbeats 8000000
/-! ### R: defs, the law -/
namespace HF
open PySem PySem.Spec PyProof.Rows L2

structure Df where
  nm : Str
  N : List Str
  ps : List Str
  st : Stmt
  fn : Fn
def scopeOk (N ps : List Str) (sc : Scope) : Bool :=
  decide (sc.kind = .function) && decide (sc.isCoroutine = false) && decide (sc.isGenerator = false) && decide N.Nodup && decide (N.take ps.length = ps) && ps.all (isLoc sc) && sc.names.all (fun y => decide (y.2 ≠ .free))
def dfOk (fs gs cs : List Str) (d : Df) : Bool :=
  (d.nm == ("" : Str)) || scopeOk d.N d.ps (defScope d.st) && decide (d.fn.pars = d.ps.length) && decide (d.fn.slots = d.N.length) && chkSs d.N fs gs cs d.fn.body (defScope d.st) (defBody d.st)
theorem scope_of {N ps : List Str} {sc : Scope} (h : scopeOk N ps sc = true) : FnScope N ps sc := by
  simp only [scopeOk, Bool.and_eq_true, decide_eq_true_eq, List.all_eq_true] at h
  obtain ⟨⟨⟨⟨⟨⟨h1, h2⟩, h3⟩, h4⟩, h5⟩, h6⟩, h7⟩ := h
  exact ⟨h1, h2, h3, h4, h5, fun x hx => loc_of (h6 x hx), fun y hy => h7 y hy⟩

structure Txt (K : PySem.W.Frag) (mg : Str → Option Value) (Ds : List Df) (gs cs : List Str) (G : List PyData) (cls : Nat → Addr) : Prop where
  blt : ∀ x ∈ bnames, mg x = none
  con : ∀ (i : Nat) x d, x ≠ ("" : Str) → gs[i]? = some x → G[i]? = some d → ∃ v u, mg x = some u ∧ RelV v u ∧ ∀ F, Dp K F v d
  fn : ∀ (f : Nat) d, d.nm ≠ ("" : Str) → Ds[f]? = some d → ∃ a fd, mg d.nm = some (.ref a) ∧ Fun K d.nm d.nm d.st a fd ∧ Binds K fd d.ps []
  cls : ∀ (c : Nat) x, x ≠ ("" : Str) → cs[c]? = some x → ∃ B newId initId bmB, ExcBaseFacts B newId initId bmB ∧ PySem.W.excIn K (cls c) bmB newId = true ∧ mg x = some (.ref (cls c)) ∧ PySem.W.keepIn K (.ref (cls c)) = true ∧
    PySem.W.subIn K (.ref (cls c)) (.type "BaseException") = some true ∧ PySem.W.typeIn K (.ref (cls c)) = some (.type "type")

theorem nthF_get : ∀ (l : List Fn) (i : Nat), nthF l i = l[i]?
  | [], _ => rfl
  | a :: r, 0 => rfl
  | a :: r, n + 1 => by simp only [nthF, List.getElem?_cons_succ]; exact nthF_get r n
theorem nones_eq : ∀ n : Nat, nones n = List.replicate n none
  | 0 => rfl
  | n + 1 => by simp only [nones, List.replicate_succ]; rw [nones_eq n]

section
variable {P : Program} {w : World} {K : PySem.W.Frag} {mg : Str → Option Value} {base : Heap} {Ds : List Df} {gs cs : List Str} {G : List PyData} {cls : Nat → Addr}
/-- the entry -/
theorem rel_start {N : List Str} {F H : Hp} {E : XK} {vs : List V} {ds : List PyData} {m : Nat} (s : Same F H) (d : DpAll K F vs ds) (hm : m = N.length - vs.length) :
    Rel ⟨K, F, H, E, cls⟩ (start N vs) ((ds.map Res.v).map some ++ nones m) F H := by
  have hl := d.len
  have key : ∀ (i : Nat) x, ((ds.map Res.v).map some ++ nones m)[i]? = some (some x) → ∃ e, ds[i]? = some e ∧ x = .v e := by
    intro i x h
    rw [List.getElem?_append] at h
    split at h
    · rw [List.map_map, List.getElem?_map] at h
      cases q : ds[i]? with
      | none => rw [q] at h; cases h
      | some e =>
        rw [q] at h
        exact ⟨e, rfl, by simpa using h.symm⟩
    · rw [nones_eq, List.getElem?_replicate] at h
      split at h <;> cases h
  refine ⟨.refl s, fun i x h => ?_, fun i j x y a hij hx hy ox => ?_, ?_⟩
  · obtain ⟨e, h1, rfl⟩ := key i x h
    obtain ⟨v, h2, h3⟩ := d.getD h1
    refine ⟨v, ?_, h3⟩
    unfold L2.start
    rw [List.getElem?_append_left (by rw [List.length_map]; exact (List.getElem?_eq_some_iff.mp h2).1), List.getElem?_map, h2]
    rfl
  · obtain ⟨e, h1, rfl⟩ := key i x hx
    exact ox.elim
  · unfold L2.start
    rw [List.length_append, List.length_append, nones_eq, List.length_replicate, List.length_replicate, List.length_map, List.length_map, List.length_map, hl, hm, hl]
theorem fns (Tx : Txt K mg Ds gs cs G cls) (ok : Ds.all (dfOk (Ds.map (·.nm)) gs cs) = true) : ∀ (n f : Nat) (d : Df), d.nm ≠ ("" : Str) → Ds[f]? = some d → ∀ (a : Addr) (fd : FuncData), Fun K d.nm d.nm d.st a fd →
    FnOk P w K mg base (L2.CX P w) n a fd d.ps (spF K cls d.ps.length (cal (Ds.map (·.fn)) G n f)) ∧ ∀ as, cal (Ds.map (·.fn)) G n f as ≠ .no → as.length = d.ps.length
  | 0, f, d, hne, hd, a, fd, h2 => by
    have no : ∀ vs H Q E, ¬ spF K cls d.ps.length (cal (Ds.map (·.fn)) G 0 f) vs H Q E := fun vs H Q E h => by
      obtain ⟨_, _, _, _, _, q⟩ := h
      exact q
    exact ⟨⟨fun vs H Q E h => absurd h (no vs H Q E), fun A outer s H args us vs Q E _ _ _ _ h => absurd h (no vs H Q E)⟩, fun as h => absurd rfl h⟩
  | n + 1, f, d, hne, hd, a, fd, h2 => by
    have dok := List.all_eq_true.mp ok d (List.mem_of_getElem? hd)
    simp only [dfOk, Bool.or_eq_true, Bool.and_eq_true, decide_eq_true_eq, beq_iff_eq] at dok
    replace dok := dok.resolve_left hne
    obtain ⟨⟨⟨o1, o2⟩, o3⟩, o4⟩ := dok
    have hf : nthF (Ds.map (·.fn)) f = some d.fn := by rw [nthF_get, List.getElem?_map, hd]; rfl
    have sc := scope_of o1
    refine ⟨h2.okX sc (fun vs H Q E h => ?_) (fun cdv A outer s H vs Q E hr h => ?_), fun as h => ?_⟩
    · obtain ⟨_, _, h, _⟩ := h
      exact h
    · obtain ⟨F, ds, hl, sm, dp, q⟩ := h
      have gd : GoodS (cxOf (L2.CX P w) P w K mg base d.N d.nm (defScope d.st) a cdv A outer s H E) ⟨K, F, H, E, cls⟩ d.N (Ds.map (·.nm)) gs cs (defScope d.st) (cal (Ds.map (·.fn)) G n) G n := by
        have tk : Takes (cxOf (L2.CX P w) P w K mg base d.N d.nm (defScope d.st) a cdv A outer s H E) (fun cls d _ H => E cls d H) := takes_of rfl rfl rfl rfl
        refine ⟨⟨rfl, sc.nd, rfl, rfl, rfl, hr, Tx.blt, Tx.con, fun g x hxn hx => ?_, ?_⟩, fun _ => rfl, passes_of rfl, tk, fun c x hcn hc => ?_⟩
        · rw [List.getElem?_map] at hx
          cases q : Ds[g]? with
          | none => rw [q] at hx; cases hx
          | some e =>
            rw [q] at hx
            cases hx
            obtain ⟨b, gd, p1, p2, p3⟩ := Tx.fn g e hxn q
            obtain ⟨p4, p5⟩ := fns Tx ok n g e hxn q b gd p2
            exact ⟨b, gd, e.ps, p1, p2.kp, p3, p4, p5⟩
        · exact passes_call tk fun _ _ _ _ h => h
        · obtain ⟨B, ni, ii, bm, p1, p2, p3, p4, p5, p6⟩ := Tx.cls c x hcn hc
          exact ⟨B, ni, ii, bm, p1, p2, p3, p4, raises_own p5 p6⟩
      refine ⟨TSv ⟨K, F, H, E, cls⟩ (exs (cal (Ds.map (·.fn)) G n) G 1000 d.fn.body), sndSs d.fn.body _ gd o4, F, _, rel_start (N := d.N) (m := d.fn.slots - d.fn.pars) sm dp (by rw [o3, o2, hl]), ?_⟩
      have e : cal (Ds.map (·.fn)) G (n + 1) f (ds.map .v) = (exs (cal (Ds.map (·.fn)) G n) G 1000 d.fn.body ((ds.map .v).map some ++ nones (d.fn.slots - d.fn.pars))).bind fun fl => (match fl with
          | .nx _ => .ok (.v .none)
          | .rt x => .ok x) := by
        simp only [cal, hf]
        rw [if_pos (by rw [List.length_map, ← dp.len, hl, o2])] <;> rfl
      rw [e] at q
      cases z : exs (cal (Ds.map (·.fn)) G n) G 1000 d.fn.body ((ds.map .v).map some ++ nones (d.fn.slots - d.fn.pars)) with
      | no => rw [z] at q; exact q.elim
      | ex c => rw [z] at q; exact q
      | ok fl =>
        rw [z] at q
        cases fl with
        | nx r => exact fun σ' F' H' R _ => q .non F' H' R.ext .non
        | rt x => exact fun v F' H' e1 rep => q v F' H' e1 rep
    · simp only [cal, hf] at h
      split at h
      · rename_i hl
        rw [hl, o2]
      · exact absurd rfl h
/-- the law's promise -/
def spL (n : Nat) (K : PySem.W.Frag) : Sp := fun vs H Q _ => ∃ (a : Addr) (ns : List Int), vs = [.ref a] ∧ ns.length ≤ n ∧ SqL K H a (ns.map V.int) ∧ ∀ H', Q (.bl true) H'
theorem law_ok {n m f : Nat} {d : Df} (Tx : Txt K mg Ds gs cs G cls) (ok : Ds.all (dfOk (Ds.map (·.nm)) gs cs) = true) (hne : d.nm ≠ ("" : Str)) (hd : Ds[f]? = some d) (hp : d.ps = [("script" : Str)]) {a : Addr} {fd : FuncData} (hf : Fun K d.nm d.nm d.st a fd)
    (main : ∀ ns : List Int, ns.length ≤ m → cal (Ds.map (·.fn)) G n f [.v (scr ns)] = .ok (.v (.bool true))) : FnOk P w K mg base (L2.CX P w) n a fd [("script" : Str)] (spL m K) := by
  obtain ⟨h4, _⟩ := fns (P := P) (w := w) (base := base) Tx ok n f d hne hd a fd hf
  rw [hp] at h4
  refine h4.imp fun vs H Q E ⟨b, ns, e1, hl, hs, q⟩ => ?_
  subst e1
  refine ⟨H, [scr ns], rfl, .refl _, .cons (.scr hs rfl) .nil, ?_⟩
  show (match cal (Ds.map (·.fn)) G n f [.v (scr ns)] with
    | .ok x => Give K H H Q x
    | .ex c => ∀ H', Same H H' → E (.ref (cls c)) none H'
    | .no => False)
  rw [main ns hl]
  intro v F' H' _ rep
  cases rep
  exact q H'
theorem walkL {l : PySem.W.OpenLaw} {q : Program} {loose : List Str} {XP : (Str → Option Value) → Heap → Prop} {YP : World → Heap → Prop} {d : DefRec} {K : Params → PySem.W.Frag} {k m : Nat} (hn : l.most = some m) (hm : m ≤ sizeLine) (hdf : d.params.defaults = []) (hr : Room k callerA)
    (hY : ∀ (w : World) (h : Heap), YP w h → (K w.params).In h)
    (F : ∀ (w : World) (mg : Str → Option Value) (fa : Addr) (h : Heap), (K w.params).In h → h.Ns mainGlobals mg → mg d.name = some (.ref fa) →
      ∃ fd : FuncData, (∀ (s : Shared) (u : Value), BindsTo s fd ⟨[u], []⟩ [("script", u)]) ∧ ∀ base : Heap, (K w.params).In base → base.Ns mainGlobals mg → FnOk l.prog w (K w.params) mg base (L2.CX l.prog w) k fa fd ["script"] (spL m (K w.params))) :
    PySem.W.WalkO q loose XP YP l.row.toRowW d [] (fun f vs => PySem.call f vs) :=
  L2.walk_of (n := m) (k := k) (x := "script") (CX := fun w => L2.CX l.prog w) (sp := fun w => spL m (K w.params)) hn hm hdf hr hY F (fun _ _ a ns hl _ hS => ⟨a, ns, rfl, hl, hS, fun _ => rfl⟩) fun _ _ _ _ _ z => by
    obtain ⟨_, _, _, _, _, _, _, _, _, _, _, _, z⟩ := z
    exact z.elim
end
end HF

set_option Elab.async false
set_option linter.all false
set_option maxRecDepth 100000
set_option maxHeartbeats 8000000
/-! ### S: what the top has left -/
namespace HF
open PySem PySem.Spec PyProof.Rows L2
section
variable {K : PySem.W.Frag} {mg : Str → Option Value} {h : Heap}
def FnAt (K : PySem.W.Frag) (mg : Str → Option Value) (d : Df) : Prop := ∃ a fd, mg d.nm = some (.ref a) ∧ Fun K d.nm d.nm d.st a fd ∧ ∀ us : List Value, us.length = d.ps.length → bindArgs fd ⟨us, []⟩ = pure (d.ps.zip us)
inductive AllFn (K : PySem.W.Frag) (mg : Str → Option Value) : List Df → Prop
  | nil : AllFn K mg []
  | cons {d : Df} {l : List Df} : FnAt K mg d → AllFn K mg l → AllFn K mg (d :: l)
  | skip {d : Df} {l : List Df} : d.nm = ("" : Str) → AllFn K mg l → AllFn K mg (d :: l)
theorem AllFn.get : ∀ {l : List Df}, AllFn K mg l → ∀ (f : Nat) d, d.nm ≠ ("" : Str) → l[f]? = some d → FnAt K mg d
  | _, .nil, f, d, _, h => by simp at h
  | _, .cons a t, 0, d, _, h => by
    simp only [List.getElem?_cons_zero, Option.some.injEq] at h
    subst h
    exact a
  | _, .cons a t, f + 1, d, n, h => AllFn.get t f d n (by simpa using h)
  | _, .skip e t, 0, d, n, h => by
    simp only [List.getElem?_cons_zero, Option.some.injEq] at h
    subst h
    exact absurd e n
  | _, .skip e t, f + 1, d, n, h => AllFn.get t f d n (by simpa using h)
theorem fn_one {d : Df} {f : Addr} {oc : Value} {od an : Option Addr} {osl : Array (Option Value)} {kV doc pm cdv ct : Value} (X : K.In h) (G : h.Ns mainGlobals mg) (a : PySem.W.nsIn K mainGlobals d.nm = some (some (.ref f)))
    (l : K.lookup f = some ⟨oc, od, .func (PySem.W.fnOf d.nm d.nm (defArgs d.st) (defBody d.st) (defScope d.st) .none kV doc pm an cdv ct), osl⟩)
    (c : PySem.W.codeIn K cdv d.nm = true) (k : PySem.W.keepIn K (.ref f) = true)
    (b : ∀ (kV doc pm : Value) (an : Option Addr) (cdv ct : Value) (us : List Value), us.length = d.ps.length → bindArgs (PySem.W.fnOf d.nm d.nm (defArgs d.st) (defBody d.st) (defScope d.st) .none kV doc pm an cdv ct) ⟨us, []⟩ = pure (d.ps.zip us)) : FnAt K mg d := by
  have F := fun_mk (st := d.st) l c k
  exact ⟨f, _, PySem.W.mg_of X G a, F, b kV doc pm an cdv ct⟩
/-- a constant -/
inductive AllCon (K : PySem.W.Frag) (mg : Str → Option Value) : List Str → List PyData → Prop
  | nil : AllCon K mg [] []
  | cons {x : Str} {d : PyData} {l : List Str} {ds : List PyData} : (∃ v u, mg x = some u ∧ RelV v u ∧ ∀ F, Dp K F v d) → AllCon K mg l ds → AllCon K mg (x :: l) (d :: ds)
  | skip {x : Str} {d : PyData} {l : List Str} {ds : List PyData} : x = ("" : Str) → AllCon K mg l ds → AllCon K mg (x :: l) (d :: ds)
theorem AllCon.get : ∀ {l : List Str} {ds : List PyData}, AllCon K mg l ds → ∀ (i : Nat) x d, x ≠ ("" : Str) → l[i]? = some x → ds[i]? = some d → ∃ v u, mg x = some u ∧ RelV v u ∧ ∀ F, Dp K F v d
  | _, _, .nil, i, x, d, _, h, _ => by simp at h
  | _, _, .cons a t, 0, x, d, _, h, h2 => by
    simp only [List.getElem?_cons_zero, Option.some.injEq] at h h2
    subst h h2
    exact a
  | _, _, .cons a t, f + 1, x, d, n, h, h2 => AllCon.get t f x d n (by simpa using h) (by simpa using h2)
  | _, _, .skip e t, 0, x, d, n, h, h2 => by
    simp only [List.getElem?_cons_zero, Option.some.injEq] at h
    subst h
    exact absurd e n
  | _, _, .skip e t, f + 1, x, d, n, h, h2 => AllCon.get t f x d n (by simpa using h) (by simpa using h2)
theorem con_int {x : Str} {i : Int} {t : PySem.Tok} (X : K.In h) (G : h.Ns mainGlobals mg) (a : PySem.W.nsIn K mainGlobals x = some (some (.int i t))) : ∃ v u, mg x = some u ∧ RelV v u ∧ ∀ F, Dp K F v (.int i) := ⟨.int i, _, PySem.W.mg_of X G a, ⟨t, rfl⟩, fun _ => .int i⟩
theorem con_str {x : Str} {i : Str} {t : PySem.Tok} (X : K.In h) (G : h.Ns mainGlobals mg) (a : PySem.W.nsIn K mainGlobals x = some (some (.str i t))) : ∃ v u, mg x = some u ∧ RelV v u ∧ ∀ F, Dp K F v (.str i) := ⟨.str i, _, PySem.W.mg_of X G a, ⟨t, rfl⟩, fun _ => .str i⟩
/-- a class of errors -/
def ClsAt (K : PySem.W.Frag) (mg : Str → Option Value) (x : Str) (C : Addr) : Prop := ∃ B newId initId bmB, ExcBaseFacts B newId initId bmB ∧ PySem.W.excIn K C bmB newId = true ∧ mg x = some (.ref C) ∧ PySem.W.keepIn K (.ref C) = true ∧
    PySem.W.subIn K (.ref C) (.type "BaseException") = some true ∧ PySem.W.typeIn K (.ref C) = some (.type "type")
inductive AllCls (K : PySem.W.Frag) (mg : Str → Option Value) : List Str → List Addr → Prop
  | nil : AllCls K mg [] []
  | cons {x : Str} {C : Addr} {l : List Str} {as : List Addr} : ClsAt K mg x C → AllCls K mg l as → AllCls K mg (x :: l) (C :: as)
  | skip {x : Str} {C : Addr} {l : List Str} {as : List Addr} : x = ("" : Str) → AllCls K mg l as → AllCls K mg (x :: l) (C :: as)
theorem AllCls.get : ∀ {l : List Str} {as : List Addr}, AllCls K mg l as → ∀ (i : Nat) x, x ≠ ("" : Str) → l[i]? = some x → ClsAt K mg x (as.getD i 0)
  | _, _, .nil, i, x, _, h => by simp at h
  | _, _, .cons a t, 0, x, _, h => by
    simp only [List.getElem?_cons_zero, Option.some.injEq] at h
    subst h
    exact a
  | _, _, .cons a t, f + 1, x, n, h => by simpa using AllCls.get t f x n (by simpa using h)
  | _, _, .skip e t, 0, x, n, h => by
    simp only [List.getElem?_cons_zero, Option.some.injEq] at h
    subst h
    exact absurd e n
  | _, _, .skip e t, f + 1, x, n, h => by simpa using AllCls.get t f x n (by simpa using h)
theorem cls_one {x : Str} {C : Addr} (X : K.In h) (G : h.Ns mainGlobals mg) (a : PySem.W.nsIn K mainGlobals x = some (some (.ref C))) (q : PySem.W.excIn K C [.type "ValueError", .type "Exception", .type "BaseException", .type "object"] "ValueError.__new__" = true)
    (k : PySem.W.keepIn K (.ref C) = true) (b : PySem.W.subIn K (.ref C) (.type "BaseException") = some true) (t : PySem.W.typeIn K (.ref C) = some (.type "type")) : ClsAt K mg x C :=
  ⟨_, _, _, _, PySem.F.excBase_ValueError, q, PySem.W.mg_of X G a, k, b, t⟩
theorem blt_of (X : K.In h) (G : h.Ns mainGlobals mg) (a : ∀ x ∈ bnames, PySem.W.nsIn K mainGlobals x = some none) : ∀ x ∈ bnames, mg x = none := fun x hx => PySem.W.mg_none_of X G (a x hx)
theorem law_all {P : Program} {w : World} {Ds : List Df} {gs cs : List Str} {G : List PyData} {as : List Addr} {n m f : Nat} {d : Df} (b : ∀ x ∈ bnames, mg x = none) (c : AllCon K mg gs G) (fn : AllFn K mg Ds) (cl : AllCls K mg cs as)
    (ok : Ds.all (dfOk (Ds.map (·.nm)) gs cs) = true) (hne : d.nm ≠ ("" : Str)) (hd : Ds[f]? = some d) (hp : d.ps = [("script" : Str)]) (main : ∀ ns : List Int, ns.length ≤ m → cal (Ds.map (·.fn)) G n f [.v (scr ns)] = .ok (.v (.bool true))) {fa : Addr} (hfa : mg d.nm = some (.ref fa)) :
    ∃ fd : FuncData, (∀ (s : Shared) (v : Value), BindsTo s fd ⟨[v], []⟩ [("script", v)]) ∧ ∀ base : Heap, FnOk P w K mg base (L2.CX P w) n fa fd [("script" : Str)] (spL m K) := by
  have Tx : Txt K mg Ds gs cs G (fun c => as.getD c 0) := ⟨b, c.get, fun f d hn hd => let ⟨a, fd, h1, h2, h3⟩ := fn.get f d hn hd; ⟨a, fd, h1, h2, .all h3⟩, cl.get⟩
  obtain ⟨a, fd, h1, h2, h3⟩ := fn.get f d hne hd
  rw [hfa] at h1
  cases h1
  rw [hp] at h3
  exact ⟨fd, fun s v => .of_eq (h3 [v] rfl), fun base => law_ok (P := P) (w := w) (base := base) Tx ok hne hd hp h2 main⟩
end
end HF

set_option Elab.async false
set_option linter.all false
set_option maxRecDepth 100000
set_option maxHeartbeats 8000000
/-! ### T: running the small language -/
namespace HF
open PySem
section
variable {cl : Nat → List Res → O Res} {G : List PyData} {fuel : Nat} {s : S} {ss : Ss} {r r' : Env} {v : Res}
theorem exs_nx (h : ex cl G fuel s r = .ok (.nx r')) : exs cl G fuel (.cons s ss) r = exs cl G fuel ss r' := by
  simp only [exs, h, O.ok_bind]
theorem exs_rt (h : ex cl G fuel s r = .ok (.rt v)) : exs cl G fuel (.cons s ss) r = .ok (.rt v) := by
  simp only [exs, h, O.ok_bind]
theorem exs_nil : exs cl G fuel .nil r = .ok (.nx r) := by simp only [exs]
end
theorem cal_eq {T : List Fn} {G : List PyData} {n f : Nat} {as : List Res} {F : Fn} (hf : nthF T f = some F) (hl : as.length = F.pars) :
    cal T G (n + 1) f as = (exs (cal T G n) G 1000 F.body (as.map some ++ nones (F.slots - F.pars))).bind fun fl => (match fl with
      | .nx _ => .ok (.v .none)
      | .rt x => .ok x) := by
  simp only [cal, hf, hl, if_true] <;> rfl
/-! operations on whole numbers -/
section
variable (i j : Int) (xs ys : List PyData)
theorem b1_int : b1D .int (.int i) = .ok (.v (.int i)) := rfl
theorem b1_intb (b : Bool) : b1D .int (.bool b) = .ok (.v (.int (if b then 1 else 0))) := rfl
theorem b1_lenl : b1D .len (.list xs) = .ok (.v (.int xs.length)) := rfl
theorem b1_lent : b1D .len (.tuple xs) = .ok (.v (.int xs.length)) := rfl
theorem b1_tupl : b1D .tuple (.list xs) = .ok (.v (.tuple xs)) := rfl
theorem b1_lstt : b1D .list (.tuple xs) = .ok (.l xs) := rfl
theorem b1_lstl : b1D .list (.list xs) = .ok (.l xs) := rfl
theorem bin_add : binD .add (.int i) (.int j) = .ok (.v (.int (i + j))) := rfl
theorem bin_sub : binD .sub (.int i) (.int j) = .ok (.v (.int (i - j))) := rfl
theorem bin_mul : binD .mul (.int i) (.int j) = if small64 i || small64 j then .ok (.v (.int (i * j))) else .no := rfl
theorem bin_fdiv : binD .fdiv (.int i) (.int j) = if 0 < j ∧ j < 18446744073709551616 then .ok (.v (.int (i / j))) else .no := rfl
theorem bin_mod : binD .mod (.int i) (.int j) = if 0 < j then .ok (.v (.int (i % j))) else .no := rfl
theorem bin_pow : binD .pow (.int i) (.int j) = if 0 ≤ j ∧ j ≤ 1000 ∧ small64 i = true then .ok (.v (.int (i ^ j.toNat))) else .no := rfl
theorem cmp_lt : cmpD .lt (.int i) (.int j) = .ok (decide (i < j)) := rfl
theorem cmp_le : cmpD .le (.int i) (.int j) = .ok (decide (i ≤ j)) := rfl
theorem cmp_gt : cmpD .gt (.int i) (.int j) = .ok (decide (j < i)) := rfl
theorem cmp_ge : cmpD .ge (.int i) (.int j) = .ok (decide (j ≤ i)) := rfl
theorem cmp_eqi : cmpD .eq (.int i) (.int j) = .ok (i == j) := by simp [cmpD, unscr, SeqAt.shaped, PyData.canLay0, PyData.depth, PyData.eqv]
theorem cmp_nei : cmpD .ne (.int i) (.int j) = .ok (!(i == j)) := by simp [cmpD, unscr, SeqAt.shaped, PyData.canLay0, PyData.depth, PyData.eqv]
theorem toI_int : toI (.int i) = .ok i := rfl
theorem toB_bool (b : Bool) : toB (.bool b) = .ok b := rfl
end
/-! the script -/
theorem keys_scr : ∀ ns : List Int, keysD (ns.map fun n => (.int n, .none)) = ofI ns
  | [] => rfl
  | n :: ns => by simp only [List.map_cons, keysD, keys_scr ns]; rfl
theorem lay_ints : ∀ ns : List Int, PyData.canLayAll0 (ofI ns) = true ∧ PyData.depthAll (ofI ns) = 0
  | [] => ⟨rfl, rfl⟩
  | n :: ns => by
    obtain ⟨h1, h2⟩ := lay_ints ns
    unfold ofI at h1 h2 ⊢
    rw [List.map_cons]
    refine ⟨by simp only [PyData.canLayAll0, PyData.canLay0, h1, Bool.and_self], by simp only [PyData.depthAll, PyData.depth, h2]; rfl⟩
theorem shaped_ints (ns : List Int) : SeqAt.shaped (.list (ofI ns)) = true := by
  obtain ⟨h1, h2⟩ := lay_ints ns
  simp only [SeqAt.shaped, PyData.canLay0, PyData.depth, h1, h2]
  rfl
theorem at_ofI (ns : List Int) (i : Nat) (h : i < ns.length) : ∃ c, nthD (ofI ns) i = some (.int c) := by
  induction ns generalizing i with
  | nil => simp at h
  | cons n ns ih =>
    cases i with
    | zero => exact ⟨n, rfl⟩
    | succ i => exact ih i (by simpa using h)
/-- an index within the script -/
theorem scr_at (ns : List Int) (i : Int) (h0 : 0 ≤ i) (h1 : i < ns.length) : ∃ c, ixD (scr ns) (.int i) = .ok (.int c) := by
  obtain ⟨c, hc⟩ := at_ofI ns i.toNat (by omega)
  refine ⟨c, ?_⟩
  simp only [scr, ixD, keys_scr, atD, ixOf]
  rw [if_pos h0, if_pos (by simp only [ofI, List.length_map]; exact h1)]
  simp only [hc]
theorem scr_len (ns : List Int) : b1D .len (scr ns) = .ok (.v (.int ns.length)) := by simp only [scr, b1D, List.length_map]
theorem scr_ne (ns : List Int) : cmpD .ne (scr ns) (.list []) = .ok (!ns.isEmpty) := by
  have h1 := shaped_ints ns
  have hs : SeqAt.shaped (.list []) = true := rfl
  simp only [scr, cmpD, unscr, keys_scr, h1, hs, Bool.and_self, if_true]
  cases ns <;> simp [ofI, PyData.eqv, PyData.eqvAll]
theorem scr_eq (ns : List Int) : cmpD .eq (scr ns) (.list []) = .ok ns.isEmpty := by
  have h1 := shaped_ints ns
  have hs : SeqAt.shaped (.list []) = true := rfl
  simp only [scr, cmpD, unscr, keys_scr, h1, hs, Bool.and_self, if_true]
  cases ns <;> simp [ofI, PyData.eqv, PyData.eqvAll]
end HF

set_option Elab.async false
set_option linter.all false
set_option maxRecDepth 100000
set_option maxHeartbeats 8000000
/-! ### U: drawing from the script -/
namespace HF
open PySem
def gCell : Fn := { pars := 2, slots := 2, body := (.cons (.iff (.cmp .lt (.var 1) (.b1 .len (.var 0))) (.cons (.ret (.ix (.var 0) (.var 1)))
   .nil) .nil)
   (.cons (.iff (.cmp .eq (.var 0) (.lst .nil)) (.cons (.ret (.cst (.int 0)))
   .nil) .nil)
   (.cons (.ret (.bin .add (.bin .mul (.ix (.var 0) (.bin .mod (.var 1) (.b1 .len (.var 0)))) (.cst (.int 31))) (.var 1)))
   .nil))) }
def gPick (c : Nat) : Fn := { pars := 3, slots := 4, body := (.cons (.sef 3 (.bin .mod (.bin .mul (.bin .add (.call c (.cons (.var 0) (.cons (.var 1) .nil))) (.bin .mul (.cst (.int 6151)) (.bin .add (.var 1) (.cst (.int 1))))) (.cst (.int 40692))) (.cst (.int 2147483399))))
   (.cons (.ret (.bin .mod (.bin .mod (.bin .add (.bin .mul (.var 3) (.var 3)) (.bin .fdiv (.var 3) (.cst (.int 31)))) (.cst (.int 2147483629))) (.var 2)))
   .nil)) }
theorem cell_ok {T : List Fn} {G : List PyData} {c : Nat} (hc : nthF T c = some gCell) (n : Nat) (ns : List Int) (k : Int) (hk : 0 ≤ k) : ∃ x : Int, cal T G (n + 1) c [.v (scr ns), .v (.int k)] = .ok (.v (.int x)) := by
  rw [cal_eq hc rfl]
  show ∃ x : Int, (exs (cal T G n) G 1000 gCell.body [some (.v (scr ns)), some (.v (.int k))]).bind _ = _
  unfold gCell
  dsimp only
  by_cases h1 : k < (ns.length : Int)
  · obtain ⟨x, hx⟩ := scr_at ns k hk h1
    refine ⟨x, ?_⟩
    have e1 : decide (k < (ns.length : Int)) = true := decide_eq_true h1
    rw [exs_rt (v := .v (.int x)) (by simp only [ex, exs, ev, pk, peek, nth, dat_v, Res.dat_v, O.ok_bind, scr_len, cmp_lt, toB_bool, e1, hx])]
    rfl
  · have e1 : decide (k < (ns.length : Int)) = false := decide_eq_false h1
    rw [exs_nx (r' := [some (.v (scr ns)), some (.v (.int k))]) (by simp only [ex, exs, ev, pk, peek, nth, dat_v, Res.dat_v, O.ok_bind, scr_len, cmp_lt, toB_bool, e1])]
    cases hn : ns.isEmpty with
    | true =>
      refine ⟨0, ?_⟩
      rw [exs_rt (v := .v (.int 0)) (by simp only [ex, exs, ev, evs, pk, peek, nth, dat_v, dat_l, Res.dat_v, O.ok_bind, scr_eq, hn, toB_bool])]
      rfl
    | false =>
      rw [exs_nx (r' := [some (.v (scr ns)), some (.v (.int k))]) (by simp only [ex, exs, ev, evs, pk, peek, nth, dat_v, dat_l, Res.dat_v, O.ok_bind, scr_eq, hn, toB_bool])]
      have hp : (0 : Int) < (ns.length : Int) := by
        cases ns with
        | nil => simp at hn
        | cons a b => simp only [List.length_cons]; omega
      obtain ⟨x, hx⟩ := scr_at ns (k % (ns.length : Int)) (Int.emod_nonneg k (by omega)) (Int.emod_lt_of_pos k hp)
      have p5 : (small64 x || small64 31) = true := by rw [show small64 31 = true from by decide, Bool.or_true]
      refine ⟨x * 31 + k, ?_⟩
      rw [exs_rt (v := .v (.int (x * 31 + k))) (by simp only [ex, exs, ev, pk, peek, nth, dat_v, Res.dat_v, O.ok_bind, scr_len, bin_mod, bin_mul, bin_add, hp, if_true, hx, p5])]
      rfl
theorem pick_ok {T : List Fn} {G : List PyData} {c p : Nat} (hc : nthF T c = some gCell) (hp : nthF T p = some (gPick c)) (n : Nat) (ns : List Int) (k m : Int) (hk : 0 ≤ k) (hm : 0 < m) :
    ∃ x : Int, 0 ≤ x ∧ x < m ∧ cal T G (n + 2) p [.v (scr ns), .v (.int k), .v (.int m)] = .ok (.v (.int x)) := by
  obtain ⟨z, hz⟩ := cell_ok (G := G) hc n ns k hk
  rw [cal_eq hp rfl]
  show ∃ x : Int, 0 ≤ x ∧ x < m ∧ (exs (cal T G (n + 1)) G 1000 (gPick c).body [some (.v (scr ns)), some (.v (.int k)), some (.v (.int m)), none]).bind _ = _
  have p6 : (small64 6151 || small64 (k + 1)) = true := by rw [show small64 6151 = true from by decide, Bool.true_or]
  have p7 : (small64 (z + 6151 * (k + 1)) || small64 40692) = true := by rw [show small64 40692 = true from by decide, Bool.or_true]
  have p8 : (0 : Int) < 2147483399 := by decide
  have p9 : (0 : Int) < 2147483629 := by decide
  have p10 : (0 : Int) < 31 ∧ (31 : Int) < 18446744073709551616 := by decide
  have d0 := Int.emod_nonneg ((z + 6151 * (k + 1)) * 40692) (by decide : (2147483399 : Int) ≠ 0)
  have d1 := Int.emod_lt_of_pos ((z + 6151 * (k + 1)) * 40692) p8
  generalize hd : (z + 6151 * (k + 1)) * 40692 % 2147483399 = D at d0 d1
  have p11 : (small64 D || small64 D) = true := by
    have : small64 D = true := by
      unfold small64
      simp only [Bool.and_eq_true, decide_eq_true_eq]
      omega
    rw [this, Bool.true_or]
  refine ⟨(D * D + D / 31) % 2147483629 % m, Int.emod_nonneg _ (by omega), Int.emod_lt_of_pos _ hm, ?_⟩
  unfold gPick
  dsimp only
  rw [exs_nx (r' := [some (.v (scr ns)), some (.v (.int k)), some (.v (.int m)), some (.v (.int D))])
    (by simp only [ex, ev, evs, pk, peek, nth, dat_v, Res.dat_v, O.ok_bind, List.map_cons, List.map_nil, hz, bin_add, bin_mul, bin_mod, p6, p7, p8, if_true, hd, put])]
  rw [exs_rt (v := .v (.int ((D * D + D / 31) % 2147483629 % m))) (by simp only [ex, ev, pk, peek, nth, dat_v, Res.dat_v, O.ok_bind, bin_add, bin_mul, bin_mod, bin_fdiv, p11, p9, p10, if_true, hm, and_self])]
  rfl
end HF

set_option Elab.async false
set_option linter.all false
set_option maxRecDepth 100000
set_option maxHeartbeats 0
/-! ### V: the defs of all laws, by number (written by ugen.py) -/
namespace HF
open PySem
/-- 0 is_whole: thing low high -/
def u_is_whole : Fn := { pars := 3, slots := 3, body := (.cons (.ret (.bo true (.cons (.isi .int (.var 0)) (.cons (.nt (.isi .bool (.var 0))) (.cons (.chn .le .le (.var 1) (.var 0) (.var 2)) .nil)))))
   .nil) }
/-- 1 is_tie: thing many one -/
def u_is_tie : Fn := { pars := 2, slots := 3, body := (.cons (.iff (.bo false (.cons (.nt (.isi .tuple (.var 0))) (.cons (.cmp .ne (.b1 .len (.var 0)) (.cst (.int 2))) (.cons (.nt (.b1 .all (.comp (.call 0 (.cons (.var 2) (.cons (.cst (.int 0)) (.cons (.bin .sub (.var 1) (.cst (.int 1))) .nil)))) [2] (.var 0) (.cst (.bool true))))) .nil)))) (.cons (.ret (.cst (.bool false)))
   .nil) .nil)
   (.cons (.ret (.cmp .lt (.ix (.var 0) (.cst (.int 0))) (.ix (.var 0) (.cst (.int 1)))))
   .nil)) }
/-- 2 is_web: thing one -/
def u_is_web : Fn := { pars := 1, slots := 2, body := (.cons (.iff (.bo false (.cons (.nt (.isi .tuple (.var 0))) (.cons (.cmp .ne (.b1 .len (.var 0)) (.cst (.int 2))) (.cons (.nt (.call 0 (.cons (.ix (.var 0) (.cst (.int 0))) (.cons (.cst (.int 1)) (.cons (.glb 0) .nil))))) .nil)))) (.cons (.ret (.cst (.bool false)))
   .nil) .nil)
   (.cons (.iff (.bo false (.cons (.nt (.isi .tuple (.ix (.var 0) (.cst (.int 1))))) (.cons (.nt (.b1 .all (.comp (.call 1 (.cons (.var 1) (.cons (.ix (.var 0) (.cst (.int 0))) .nil))) [1] (.ix (.var 0) (.cst (.int 1))) (.cst (.bool true))))) .nil))) (.cons (.ret (.cst (.bool false)))
   .nil) .nil)
   (.cons (.ret (.cmp .eq (.b1 .list (.ix (.var 0) (.cst (.int 1)))) (.b1 .sset (.ix (.var 0) (.cst (.int 1))))))
   .nil))) }
/-- 3 look_web: web -/
def u_look_web : Fn := { pars := 1, slots := 1, body := (.cons (.iff (.nt (.call 2 (.cons (.var 0) .nil))) (.cons (.rse 1)
   .nil) .nil)
   .nil) }
/-- 4 beside: web place one other -/
def u_beside : Fn := { pars := 2, slots := 4, body := (.cons (.ret (.b1 .sorted (.comp (.bin .sub (.bin .add (.var 2) (.var 3)) (.var 1)) [2, 3] (.ix (.var 0) (.cst (.int 1))) (.cmp .inn (.var 1) (.tup (.cons (.var 2) (.cons (.var 3) .nil)))))))
   .nil) }
/-- 5 far_from: web start known found at place -/
def u_far_from : Fn := { pars := 2, slots := 6, body := (.cons (.kds 2 (.var 1) (.cst (.int 0)))
   (.cons (.set 3 (.lst (.cons (.var 1) .nil)))
   (.cons (.sef 4 (.cst (.int 0)))
   (.cons (.whl (.cmp .lt (.var 4) (.b1 .len (.var 3))) (.cons (.fr [5] (.call 4 (.cons (.var 0) (.cons (.ix (.var 3) (.var 4)) .nil))) (.cons (.iff (.kin true 2 (.var 5)) (.cons (.kst 2 (.var 5) (.bin .add (.kix 2 (.ix (.var 3) (.var 4))) (.cst (.int 1))))
   (.cons (.app 3 (.var 5))
   .nil)) .nil)
   .nil))
   (.cons (.sef 4 (.bin .add (.var 4) (.cst (.int 1))))
   .nil)))
   (.cons (.ret (.comp (.kget 2 (.var 5)) [5] (.rng1 (.ix (.var 0) (.cst (.int 0)))) (.cst (.bool true))))
   .nil))))) }
/-- 6 is_tree: web -/
def u_is_tree : Fn := { pars := 1, slots := 1, body := (.cons (.exp (.call 3 (.cons (.var 0) .nil)))
   (.cons (.ret (.bo true (.cons (.cmp .eq (.b1 .len (.ix (.var 0) (.cst (.int 1)))) (.bin .sub (.ix (.var 0) (.cst (.int 0))) (.cst (.int 1)))) (.cons (.cmp .nin (.cst .none) (.call 5 (.cons (.var 0) (.cons (.cst (.int 0)) .nil)))) .nil))))
   .nil)) }
/-- 7 _law_cell: script k -/
def u__law_cell : Fn := { pars := 2, slots := 2, body := (.cons (.iff (.cmp .lt (.var 1) (.b1 .len (.var 0))) (.cons (.ret (.ix (.var 0) (.var 1)))
   .nil) .nil)
   (.cons (.iff (.cmp .eq (.var 0) (.lst .nil)) (.cons (.ret (.cst (.int 0)))
   .nil) .nil)
   (.cons (.ret (.bin .add (.bin .mul (.ix (.var 0) (.bin .mod (.var 1) (.b1 .len (.var 0)))) (.cst (.int 31))) (.var 1)))
   .nil))) }
/-- 8 _law_pick: script k many drawn -/
def u__law_pick : Fn := { pars := 3, slots := 4, body := (.cons (.sef 3 (.bin .mod (.bin .mul (.bin .add (.call 7 (.cons (.var 0) (.cons (.var 1) .nil))) (.bin .mul (.cst (.int 6151)) (.bin .add (.var 1) (.cst (.int 1))))) (.cst (.int 40692))) (.cst (.int 2147483399))))
   (.cons (.ret (.bin .mod (.bin .mod (.bin .add (.bin .mul (.var 3) (.var 3)) (.bin .fdiv (.var 3) (.cst (.int 31)))) (.cst (.int 2147483629))) (.var 2)))
   .nil)) }
/-- 9 _law_web: script at many ties way place few one other -/
def u__law_web : Fn := { pars := 3, slots := 9, body := (.cons (.set 3 (.lst .nil))
   (.cons (.sef 4 (.call 8 (.cons (.var 0) (.cons (.var 1) (.cons (.cst (.int 4)) .nil)))))
   (.cons (.iff (.cmp .lt (.var 4) (.cst (.int 3))) (.cons (.fr [5] (.rng2 (.cst (.int 1)) (.var 2)) (.cons (.app 3 (.tup (.cons (.call 8 (.cons (.var 0) (.cons (.bin .add (.var 1) (.var 5)) (.cons (.var 5) .nil)))) (.cons (.var 5) .nil))))
   .nil))
   .nil) .nil)
   (.cons (.iff (.cmp .ne (.var 4) (.cst (.int 0))) (.cons (.sef 6 (.ite (.cmp .eq (.var 4) (.cst (.int 3))) (.cst (.int 3)) (.cst (.int 6))))
   (.cons (.fr [7] (.rng1 (.var 2)) (.cons (.fr [8] (.rng2 (.bin .add (.var 7) (.cst (.int 1))) (.var 2)) (.cons (.iff (.bo true (.cons (.cmp .nin (.tup (.cons (.var 7) (.cons (.var 8) .nil))) (.var 3)) (.cons (.cmp .eq (.call 8 (.cons (.var 0) (.cons (.bin .add (.bin .add (.bin .add (.var 1) (.cst (.int 10))) (.bin .mul (.cst (.int 7)) (.var 7))) (.var 8)) (.cons (.var 6) .nil)))) (.cst (.int 0))) .nil))) (.cons (.app 3 (.tup (.cons (.var 7) (.cons (.var 8) .nil))))
   .nil) .nil)
   .nil))
   .nil))
   .nil)) .nil)
   (.cons (.ret (.tup (.cons (.var 2) (.cons (.b1 .tuple (.b1 .sorted (.var 3))) .nil))))
   .nil))))) }
/-- 10 _law_beside: web place made other -/
def u__law_beside : Fn := { pars := 2, slots := 4, body := (.cons (.set 2 (.lst .nil))
   (.cons (.fr [3] (.rng1 (.ix (.var 0) (.cst (.int 0)))) (.cons (.iff (.bo true (.cons (.cmp .ne (.var 3) (.var 1)) (.cons (.cmp .inn (.tup (.cons (.b2 false (.var 1) (.var 3)) (.cons (.b2 true (.var 1) (.var 3)) .nil))) (.ix (.var 0) (.cst (.int 1)))) .nil))) (.cons (.app 2 (.var 3))
   .nil) .nil)
   .nil))
   (.cons (.retv 2)
   .nil))) }
/-- 11 _law_stand: script at web place burnt saved way -/
def u__law_stand : Fn := { pars := 3, slots := 7, body := (.cons (.par [4, 5] [] (.cons (.lst (.cons (.call 8 (.cons (.var 0) (.cons (.var 1) (.cons (.ix (.var 2) (.cst (.int 0))) .nil)))) .nil)) (.cons (.lst .nil) .nil)))
   (.cons (.fr [3] (.rng1 (.ix (.var 2) (.cst (.int 0)))) (.cons (.sef 6 (.call 8 (.cons (.var 0) (.cons (.bin .add (.bin .add (.var 1) (.cst (.int 1))) (.var 3)) (.cons (.cst (.int 9)) .nil)))))
   (.cons (.iff (.bo true (.cons (.cmp .eq (.var 6) (.cst (.int 0))) (.cons (.cmp .nin (.var 3) (.var 4)) .nil))) (.cons (.app 4 (.var 3))
   .nil) (.cons (.iff (.bo true (.cons (.cmp .eq (.var 6) (.cst (.int 1))) (.cons (.cmp .nin (.var 3) (.var 4)) .nil))) (.cons (.app 5 (.var 3))
   .nil) .nil)
   .nil))
   .nil)))
   (.cons (.ret (.tup (.cons (.b1 .tuple (.b1 .sorted (.var 4))) (.cons (.b1 .tuple (.var 5)) .nil))))
   .nil))) }
/-- 12 _law_danger: web stand made place near one -/
def u__law_danger : Fn := { pars := 2, slots := 6, body := (.cons (.set 2 (.lst .nil))
   (.cons (.fr [3] (.rng1 (.ix (.var 0) (.cst (.int 0)))) (.cons (.sef 4 (.comp (.var 5) [5] (.call 10 (.cons (.var 0) (.cons (.var 3) .nil))) (.cmp .inn (.var 5) (.ix (.var 1) (.cst (.int 0))))))
   (.cons (.iff (.bo true (.cons (.cmp .ne (.var 4) (.lst .nil)) (.cons (.cmp .nin (.var 3) (.bin .add (.ix (.var 1) (.cst (.int 0))) (.ix (.var 1) (.cst (.int 1))))) .nil))) (.cons (.app 2 (.var 3))
   .nil) .nil)
   .nil)))
   (.cons (.retv 2)
   .nil))) }
/-- 13 _law_spread: web stand places -/
def u__law_spread : Fn := { pars := 3, slots := 3, body := (.cons (.sef 1 (.tup (.cons (.ix (.var 1) (.cst (.int 0))) (.cons (.b1 .tuple (.b1 .sorted (.bin .add (.ix (.var 1) (.cst (.int 1))) (.b1 .tuple (.var 2))))) .nil))))
   (.cons (.ret (.tup (.cons (.b1 .tuple (.b1 .sorted (.bin .add (.ix (.var 1) (.cst (.int 0))) (.b1 .tuple (.call 12 (.cons (.var 0) (.cons (.var 1) .nil))))))) (.cons (.ix (.var 1) (.cst (.int 1))) .nil))))
   .nil)) }
/-- 14 _law_end: web stand -/
def u__law_end : Fn := { pars := 2, slots := 2, body := (.cons (.whl (.cmp .ne (.call 12 (.cons (.var 0) (.cons (.var 1) .nil))) (.lst .nil)) (.cons (.sef 1 (.call 13 (.cons (.var 0) (.cons (.var 1) (.cons (.tup .nil) .nil)))))
   .nil))
   (.cons (.retv 1)
   .nil)) }
/-- 15 _law_places: thing made k place -/
def u__law_places : Fn := { pars := 1, slots := 4, body := (.cons (.set 1 (.lst (.cons (.tup .nil) .nil)))
   (.cons (.iff (.isi .tuple (.var 0)) (.cons (.fr [2] (.rng1 (.b1 .len (.var 0))) (.cons (.ext 1 (.comp (.bin .add (.tup (.cons (.var 2) .nil)) (.var 3)) [3] (.call 15 (.cons (.ix (.var 0) (.var 2)) .nil)) (.cst (.bool true))))
   .nil))
   .nil) .nil)
   (.cons (.retv 1)
   .nil))) }
/-- 16 _law_put: thing place new k -/
def u__law_put : Fn := { pars := 3, slots := 4, body := (.cons (.iff (.cmp .eq (.var 1) (.tup .nil)) (.cons (.retv 2)
   .nil) .nil)
   (.cons (.sef 3 (.ix (.var 1) (.cst (.int 0))))
   (.cons (.ret (.bin .add (.bin .add (.slc (.var 0) (.cst .none) (.var 3)) (.tup (.cons (.call 16 (.cons (.ix (.var 0) (.var 3)) (.cons (.slc (.var 1) (.cst (.int 1)) (.cst .none)) (.cons (.var 2) .nil)))) .nil))) (.slc (.var 0) (.bin .add (.var 3) (.cst (.int 1))) (.cst .none))))
   .nil))) }
/-- 17 _law_spoilt_thing: script at thing places place here k some way -/
def u__law_spoilt_thing : Fn := { pars := 3, slots := 9, body := (.cons (.sef 3 (.call 15 (.cons (.var 2) .nil)))
   (.cons (.sef 4 (.ix (.var 3) (.call 8 (.cons (.var 0) (.cons (.var 1) (.cons (.b1 .len (.var 3)) .nil))))))
   (.cons (.sef 5 (.var 2))
   (.cons (.fr [6] (.var 4) (.cons (.sef 5 (.ix (.var 5) (.var 6)))
   .nil))
   (.cons (.sef 7 (.lst (.cons (.cst (.int 0)) (.cons (.cst (.int 1)) (.cons (.cst (.int 7)) (.cons (.neg (.cst (.int 1))) (.cons (.cst (.int 8)) (.cons (.cst (.bool true)) (.cons (.cst .none) (.cons (.cst (.str (PySem.Str.ofString "1"))) (.cons (.tup .nil) (.cons (.tup (.cons (.cst (.int 0)) .nil)) (.cons (.tup (.cons (.cst (.int 1)) (.cons (.cst (.int 0)) .nil))) (.cons (.lst (.cons (.cst (.int 0)) (.cons (.cst (.int 1)) .nil))) (.cons (.tup (.cons (.var 5) .nil)) (.cons (.tup (.cons (.var 5) (.cons (.var 5) .nil))) .nil))))))))))))))))
   (.cons (.sef 8 (.call 8 (.cons (.var 0) (.cons (.bin .add (.var 1) (.cst (.int 1))) (.cons (.cst (.int 20)) .nil)))))
   (.cons (.iff (.cmp .lt (.var 8) (.cst (.int 14))) (.cons (.ret (.call 16 (.cons (.var 2) (.cons (.var 4) (.cons (.ix (.var 7) (.var 8)) .nil)))))
   .nil) .nil)
   (.cons (.iff (.bo true (.cons (.isi .tuple (.var 5)) (.cons (.cmp .ne (.var 5) (.tup .nil)) .nil))) (.cons (.sef 6 (.call 8 (.cons (.var 0) (.cons (.bin .add (.var 1) (.cst (.int 2))) (.cons (.b1 .len (.var 5)) .nil)))))
   (.cons (.ret (.call 16 (.cons (.var 2) (.cons (.var 4) (.cons (.ite (.cmp .lt (.var 8) (.cst (.int 17))) (.bin .add (.slc (.var 5) (.cst .none) (.var 6)) (.slc (.var 5) (.bin .add (.var 6) (.cst (.int 1))) (.cst .none))) (.bin .add (.slc (.var 5) (.cst .none) (.bin .add (.var 6) (.cst (.int 1)))) (.slc (.var 5) (.var 6) (.cst .none)))) .nil)))))
   .nil)) .nil)
   (.cons (.ret (.call 16 (.cons (.var 2) (.cons (.var 4) (.cons (.ite (.isi .int (.var 5)) (.bin .sub (.cst (.int 1)) (.var 5)) (.cst (.int 7))) .nil)))))
   .nil))))))))) }
/-- 18 _law_whole: thing low high -/
def u__law_whole : Fn := { pars := 3, slots := 3, body := (.cons (.ret (.bo true (.cons (.isi .int (.var 0)) (.cons (.nt (.isi .bool (.var 0))) (.cons (.chn .le .le (.var 1) (.var 0) (.var 2)) .nil)))))
   .nil) }
/-- 19 _law_is_web: thing tie k one -/
def u__law_is_web : Fn := { pars := 1, slots := 4, body := (.cons (.iff (.bo false (.cons (.nt (.isi .tuple (.var 0))) (.cons (.cmp .ne (.b1 .len (.var 0)) (.cst (.int 2))) (.cons (.nt (.call 18 (.cons (.ix (.var 0) (.cst (.int 0))) (.cons (.cst (.int 1)) (.cons (.cst (.int 7)) .nil))))) .nil)))) (.cons (.ret (.cst (.bool false)))
   .nil) .nil)
   (.cons (.iff (.nt (.isi .tuple (.ix (.var 0) (.cst (.int 1))))) (.cons (.ret (.cst (.bool false)))
   .nil) .nil)
   (.cons (.fr [1] (.ix (.var 0) (.cst (.int 1))) (.cons (.iff (.bo false (.cons (.nt (.isi .tuple (.var 1))) (.cons (.cmp .ne (.b1 .len (.var 1)) (.cst (.int 2))) .nil))) (.cons (.ret (.cst (.bool false)))
   .nil) .nil)
   (.cons (.iff (.bo false (.cons (.cmp .ne (.comp (.var 3) [3] (.var 1) (.nt (.call 18 (.cons (.var 3) (.cons (.cst (.int 0)) (.cons (.bin .sub (.ix (.var 0) (.cst (.int 0))) (.cst (.int 1))) .nil)))))) (.lst .nil)) (.cons (.cmp .ge (.ix (.var 1) (.cst (.int 0))) (.ix (.var 1) (.cst (.int 1)))) .nil))) (.cons (.ret (.cst (.bool false)))
   .nil) .nil)
   .nil)))
   (.cons (.ret (.cmp .eq (.comp (.var 2) [2] (.rng2 (.cst (.int 1)) (.b1 .len (.ix (.var 0) (.cst (.int 1))))) (.cmp .le (.ix (.ix (.var 0) (.cst (.int 1))) (.var 2)) (.ix (.ix (.var 0) (.cst (.int 1))) (.bin .sub (.var 2) (.cst (.int 1)))))) (.lst .nil)))
   .nil)))) }
/-- 20 _law_is_row: web thing k one -/
def u__law_is_row : Fn := { pars := 2, slots := 4, body := (.cons (.iff (.bo false (.cons (.nt (.isi .tuple (.var 1))) (.cons (.cmp .ne (.comp (.var 3) [3] (.var 1) (.nt (.call 18 (.cons (.var 3) (.cons (.cst (.int 0)) (.cons (.bin .sub (.ix (.var 0) (.cst (.int 0))) (.cst (.int 1))) .nil)))))) (.lst .nil)) .nil))) (.cons (.ret (.cst (.bool false)))
   .nil) .nil)
   (.cons (.ret (.cmp .eq (.comp (.var 2) [2] (.rng2 (.cst (.int 1)) (.b1 .len (.var 1))) (.cmp .le (.ix (.var 1) (.var 2)) (.ix (.var 1) (.bin .sub (.var 2) (.cst (.int 1)))))) (.lst .nil)))
   .nil)) }
/-- 21 _law_is_stand: web thing place some -/
def u__law_is_stand : Fn := { pars := 2, slots := 4, body := (.cons (.iff (.bo false (.cons (.nt (.isi .tuple (.var 1))) (.cons (.cmp .ne (.b1 .len (.var 1)) (.cst (.int 2))) (.cons (.cmp .ne (.comp (.var 3) [3] (.var 1) (.nt (.call 20 (.cons (.var 0) (.cons (.var 3) .nil))))) (.lst .nil)) .nil)))) (.cons (.ret (.cst (.bool false)))
   .nil) .nil)
   (.cons (.ret (.cmp .eq (.comp (.var 2) [2] (.ix (.var 1) (.cst (.int 0))) (.cmp .inn (.var 2) (.ix (.var 1) (.cst (.int 1))))) (.lst .nil)))
   .nil)) }
/-- 22 _law_word: kept kinds -/
def u__law_word : Fn := { pars := 0, slots := 0, body := .nil }
/-- 23 look_place: web place -/
def u_look_place : Fn := { pars := 2, slots := 2, body := (.cons (.iff (.nt (.call 0 (.cons (.var 1) (.cons (.cst (.int 0)) (.cons (.bin .sub (.ix (.var 0) (.cst (.int 0))) (.cst (.int 1))) .nil))))) (.cons (.rse 3)
   .nil) .nil)
   .nil) }
/-- 24 neighbours: web place -/
def u_neighbours : Fn := { pars := 2, slots := 2, body := (.cons (.exp (.call 3 (.cons (.var 0) .nil)))
   (.cons (.exp (.call 23 (.cons (.var 0) (.cons (.var 1) .nil))))
   (.cons (.ret (.call 4 (.cons (.var 0) (.cons (.var 1) .nil))))
   .nil))) }
/-- 25 depths: web start -/
def u_depths : Fn := { pars := 2, slots := 2, body := (.cons (.exp (.call 3 (.cons (.var 0) .nil)))
   (.cons (.exp (.call 23 (.cons (.var 0) (.cons (.var 1) .nil))))
   (.cons (.ret (.call 5 (.cons (.var 0) (.cons (.var 1) .nil))))
   .nil))) }
/-- 26 renamed: web order ties one other -/
def u_renamed : Fn := { pars := 0, slots := 0, body := .nil }
/-- 27 look_size: many -/
def u_look_size : Fn := { pars := 1, slots := 1, body := (.cons (.iff (.nt (.call 0 (.cons (.var 0) (.cons (.cst (.int 1)) (.cons (.glb 0) .nil))))) (.cons (.rse 6)
   .nil) .nil)
   .nil) }
/-- 28 line_of: many one -/
def u_line_of : Fn := { pars := 1, slots := 2, body := (.cons (.exp (.call 27 (.cons (.var 0) .nil)))
   (.cons (.ret (.tup (.cons (.var 0) (.cons (.b1 .tuple (.comp (.tup (.cons (.var 1) (.cons (.bin .add (.var 1) (.cst (.int 1))) .nil))) [1] (.rng1 (.bin .sub (.var 0) (.cst (.int 1)))) (.cst (.bool true)))) .nil))))
   .nil)) }
/-- 29 ring: many ties one -/
def u_ring : Fn := { pars := 1, slots := 3, body := (.cons (.exp (.call 27 (.cons (.var 0) .nil)))
   (.cons (.sef 1 (.bin .add (.comp (.tup (.cons (.var 2) (.cons (.bin .add (.var 2) (.cst (.int 1))) .nil))) [2] (.rng1 (.bin .sub (.var 0) (.cst (.int 1)))) (.cst (.bool true))) (.ite (.cmp .gt (.var 0) (.cst (.int 2))) (.lst (.cons (.tup (.cons (.cst (.int 0)) (.cons (.bin .sub (.var 0) (.cst (.int 1))) .nil))) .nil)) (.lst .nil))))
   (.cons (.ret (.tup (.cons (.var 0) (.cons (.b1 .tuple (.b1 .sorted (.var 1))) .nil))))
   .nil))) }
/-- 30 full: many made one other -/
def u_full : Fn := { pars := 1, slots := 4, body := (.cons (.exp (.call 27 (.cons (.var 0) .nil)))
   (.cons (.set 1 (.lst .nil))
   (.cons (.fr [2] (.rng1 (.var 0)) (.cons (.ext 1 (.comp (.tup (.cons (.var 2) (.cons (.var 3) .nil))) [3] (.rng2 (.bin .add (.var 2) (.cst (.int 1))) (.var 0)) (.cst (.bool true))))
   .nil))
   (.cons (.ret (.tup (.cons (.var 0) (.cons (.b1 .tuple (.var 1)) .nil))))
   .nil)))) }
/-- 31 star: many other -/
def u_star : Fn := { pars := 1, slots := 2, body := (.cons (.exp (.call 27 (.cons (.var 0) .nil)))
   (.cons (.ret (.tup (.cons (.var 0) (.cons (.b1 .tuple (.comp (.tup (.cons (.cst (.int 0)) (.cons (.var 1) .nil))) [1] (.rng2 (.cst (.int 1)) (.var 0)) (.cst (.bool true)))) .nil))))
   .nil)) }
/-- 32 with_tie: web one other -/
def u_with_tie : Fn := { pars := 3, slots := 3, body := (.cons (.exp (.call 3 (.cons (.var 0) .nil)))
   (.cons (.exp (.call 23 (.cons (.var 0) (.cons (.var 1) .nil))))
   (.cons (.exp (.call 23 (.cons (.var 0) (.cons (.var 2) .nil))))
   (.cons (.iff (.cmp .eq (.var 1) (.var 2)) (.cons (.rse 3)
   .nil) .nil)
   (.cons (.ret (.tup (.cons (.ix (.var 0) (.cst (.int 0))) (.cons (.b1 .tuple (.b1 .sset (.bin .add (.ix (.var 0) (.cst (.int 1))) (.tup (.cons (.tup (.cons (.b2 false (.var 1) (.var 2)) (.cons (.b2 true (.var 1) (.var 2)) .nil))) .nil))))) .nil))))
   .nil))))) }
/-- 33 without_tie: web one other tie -/
def u_without_tie : Fn := { pars := 3, slots := 4, body := (.cons (.exp (.call 3 (.cons (.var 0) .nil)))
   (.cons (.exp (.call 23 (.cons (.var 0) (.cons (.var 1) .nil))))
   (.cons (.exp (.call 23 (.cons (.var 0) (.cons (.var 2) .nil))))
   (.cons (.ret (.tup (.cons (.ix (.var 0) (.cst (.int 0))) (.cons (.b1 .tuple (.comp (.var 3) [3] (.ix (.var 0) (.cst (.int 1))) (.cmp .ne (.var 3) (.tup (.cons (.b2 false (.var 1) (.var 2)) (.cons (.b2 true (.var 1) (.var 2)) .nil)))))) .nil))))
   .nil)))) }
/-- 34 _law_far: web start stand made turn place -/
def u__law_far : Fn := { pars := 2, slots := 6, body := (.cons (.sef 2 (.tup (.cons (.tup (.cons (.var 1) .nil)) (.cons (.tup .nil) .nil))))
   (.cons (.set 3 (.comp (.ite (.cmp .eq (.var 5) (.var 1)) (.cst (.int 0)) (.cst .none)) [5] (.rng1 (.ix (.var 0) (.cst (.int 0)))) (.cst (.bool true))))
   (.cons (.sef 4 (.cst (.int 0)))
   (.cons (.whl (.cmp .ne (.call 12 (.cons (.var 0) (.cons (.var 2) .nil))) (.lst .nil)) (.cons (.sef 4 (.bin .add (.var 4) (.cst (.int 1))))
   (.cons (.fr [5] (.call 12 (.cons (.var 0) (.cons (.var 2) .nil))) (.cons (.six 3 (.var 5) (.var 4))
   .nil))
   (.cons (.sef 2 (.call 13 (.cons (.var 0) (.cons (.var 2) (.cons (.tup .nil) .nil)))))
   .nil))))
   (.cons (.retv 3)
   .nil))))) }
/-- 35 _law_kinds: size rows made every k j -/
def u__law_kinds : Fn := { pars := 1, slots := 6, body := (.cons (.sef 1 (.comp (.tup (.cons (.var 4) (.cons (.bin .add (.var 4) (.cst (.int 1))) .nil))) [4] (.rng1 (.bin .sub (.var 0) (.cst (.int 1)))) (.cst (.bool true))))
   (.cons (.sef 2 (.lst (.cons (.tup (.cons (.var 0) (.cons (.b1 .tuple (.var 1)) .nil))) (.cons (.tup (.cons (.var 0) (.cons (.b1 .tuple (.b1 .sorted (.bin .add (.var 1) (.bin .mul (.lst (.cons (.tup (.cons (.cst (.int 0)) (.cons (.bin .sub (.var 0) (.cst (.int 1))) .nil))) .nil)) (.b1 .int (.cmp .gt (.var 0) (.cst (.int 2)))))))) .nil))) .nil))))
   (.cons (.set 3 (.lst .nil))
   (.cons (.fr [4] (.rng1 (.var 0)) (.cons (.ext 3 (.comp (.tup (.cons (.var 4) (.cons (.var 5) .nil))) [5] (.rng2 (.bin .add (.var 4) (.cst (.int 1))) (.var 0)) (.cst (.bool true))))
   .nil))
   (.cons (.ret (.bin .add (.var 2) (.lst (.cons (.tup (.cons (.var 0) (.cons (.b1 .tuple (.var 3)) .nil))) (.cons (.tup (.cons (.var 0) (.cons (.b1 .tuple (.comp (.tup (.cons (.cst (.int 0)) (.cons (.var 5) .nil))) [5] (.rng2 (.cst (.int 1)) (.var 0)) (.cst (.bool true)))) .nil))) .nil)))))
   .nil))))) }
/-- 36 is_rising: web thing one -/
def u_is_rising : Fn := { pars := 2, slots := 3, body := (.cons (.iff (.bo false (.cons (.nt (.isi .tuple (.var 1))) (.cons (.nt (.b1 .all (.comp (.call 0 (.cons (.var 2) (.cons (.cst (.int 0)) (.cons (.bin .sub (.ix (.var 0) (.cst (.int 0))) (.cst (.int 1))) .nil)))) [2] (.var 1) (.cst (.bool true))))) .nil))) (.cons (.ret (.cst (.bool false)))
   .nil) .nil)
   (.cons (.ret (.cmp .eq (.b1 .list (.var 1)) (.b1 .sset (.var 1))))
   .nil)) }
/-- 37 stand_fits: web thing place some -/
def u_stand_fits : Fn := { pars := 2, slots := 4, body := (.cons (.iff (.bo false (.cons (.nt (.isi .tuple (.var 1))) (.cons (.cmp .ne (.b1 .len (.var 1)) (.cst (.int 2))) (.cons (.nt (.b1 .all (.comp (.call 36 (.cons (.var 0) (.cons (.var 3) .nil))) [3] (.var 1) (.cst (.bool true))))) .nil)))) (.cons (.ret (.cst (.bool false)))
   .nil) .nil)
   (.cons (.ret (.nt (.b1 .any (.comp (.cmp .inn (.var 2) (.ix (.var 1) (.cst (.int 1)))) [2] (.ix (.var 1) (.cst (.int 0))) (.cst (.bool true))))))
   .nil)) }
/-- 38 is_stand: web thing -/
def u_is_stand : Fn := { pars := 2, slots := 2, body := (.cons (.exp (.call 3 (.cons (.var 0) .nil)))
   (.cons (.ret (.call 37 (.cons (.var 0) (.cons (.var 1) .nil))))
   .nil)) }
/-- 39 look_stand: web stand -/
def u_look_stand : Fn := { pars := 2, slots := 2, body := (.cons (.iff (.nt (.call 38 (.cons (.var 0) (.cons (.var 1) .nil)))) (.cons (.rse 2)
   .nil) .nil)
   .nil) }
/-- 40 begun: web starts -/
def u_begun : Fn := { pars := 2, slots := 2, body := (.cons (.exp (.call 3 (.cons (.var 0) .nil)))
   (.cons (.iff (.nt (.call 36 (.cons (.var 0) (.cons (.var 1) .nil)))) (.cons (.rse 3)
   .nil) .nil)
   (.cons (.ret (.tup (.cons (.var 1) (.cons (.tup .nil) .nil))))
   .nil))) }
/-- 41 in_danger: web stand -/
def u_in_danger : Fn := { pars := 2, slots := 2, body := (.cons (.exp (.call 39 (.cons (.var 0) (.cons (.var 1) .nil))))
   (.cons (.ret (.call 42 (.cons (.var 0) (.cons (.var 1) .nil))))
   .nil)) }
/-- 42 threatened: web stand made place burnt saved one -/
def u_threatened : Fn := { pars := 2, slots := 7, body := (.cons (.unp [4, 5] (.var 1))
   (.cons (.set 2 (.lst .nil))
   (.cons (.fr [3] (.rng1 (.ix (.var 0) (.cst (.int 0)))) (.cons (.iff (.bo true (.cons (.cmp .nin (.var 3) (.var 4)) (.cons (.cmp .nin (.var 3) (.var 5)) (.cons (.b1 .any (.comp (.cmp .inn (.var 6) (.var 4)) [6] (.call 4 (.cons (.var 0) (.cons (.var 3) .nil))) (.cst (.bool true)))) .nil)))) (.cons (.app 2 (.var 3))
   .nil) .nil)
   .nil))
   (.cons (.retv 2)
   .nil)))) }
/-- 43 spread: web stand -/
def u_spread : Fn := { pars := 2, slots := 2, body := (.cons (.exp (.call 39 (.cons (.var 0) (.cons (.var 1) .nil))))
   (.cons (.ret (.call 44 (.cons (.var 0) (.cons (.var 1) .nil))))
   .nil)) }
/-- 44 spread_once: web stand -/
def u_spread_once : Fn := { pars := 2, slots := 2, body := (.cons (.ret (.tup (.cons (.b1 .tuple (.b1 .sorted (.bin .add (.b1 .list (.ix (.var 1) (.cst (.int 0)))) (.call 42 (.cons (.var 0) (.cons (.var 1) .nil)))))) (.cons (.ix (.var 1) (.cst (.int 1))) .nil))))
   .nil) }
/-- 45 is_over: web stand -/
def u_is_over : Fn := { pars := 2, slots := 2, body := (.cons (.ret (.cmp .eq (.call 41 (.cons (.var 0) (.cons (.var 1) .nil))) (.lst .nil)))
   .nil) }
/-- 46 burnt_out: web stand -/
def u_burnt_out : Fn := { pars := 2, slots := 2, body := (.cons (.exp (.call 39 (.cons (.var 0) (.cons (.var 1) .nil))))
   (.cons (.ret (.call 47 (.cons (.var 0) (.cons (.var 1) .nil))))
   .nil)) }
/-- 47 left_alone: web stand -/
def u_left_alone : Fn := { pars := 2, slots := 2, body := (.cons (.whl (.cmp .ne (.call 42 (.cons (.var 0) (.cons (.var 1) .nil))) (.lst .nil)) (.cons (.sef 1 (.call 44 (.cons (.var 0) (.cons (.var 1) .nil))))
   .nil))
   (.cons (.retv 1)
   .nil)) }
/-- 48 saved_too: stand places -/
def u_saved_too : Fn := { pars := 2, slots := 2, body := (.cons (.ret (.tup (.cons (.ix (.var 0) (.cst (.int 0))) (.cons (.b1 .tuple (.b1 .sorted (.bin .add (.b1 .list (.ix (.var 0) (.cst (.int 1)))) (.b1 .list (.var 1))))) .nil))))
   .nil) }
/-- 49 may_save: web stand places place -/
def u_may_save : Fn := { pars := 3, slots := 4, body := (.cons (.iff (.nt (.call 36 (.cons (.var 0) (.cons (.var 2) .nil)))) (.cons (.ret (.cst (.bool false)))
   .nil) .nil)
   (.cons (.ret (.nt (.b1 .any (.comp (.bo false (.cons (.cmp .inn (.var 3) (.ix (.var 1) (.cst (.int 0)))) (.cons (.cmp .inn (.var 3) (.ix (.var 1) (.cst (.int 1)))) .nil))) [3] (.var 2) (.cst (.bool true))))))
   .nil)) }
/-- 50 one_turn: web stand places -/
def u_one_turn : Fn := { pars := 3, slots := 3, body := (.cons (.exp (.call 39 (.cons (.var 0) (.cons (.var 1) .nil))))
   (.cons (.iff (.nt (.call 49 (.cons (.var 0) (.cons (.var 1) (.cons (.var 2) .nil))))) (.cons (.rse 3)
   .nil) .nil)
   (.cons (.ret (.call 44 (.cons (.var 0) (.cons (.call 48 (.cons (.var 1) (.cons (.var 2) .nil))) .nil))))
   .nil))) }
/-- 51 look_many: many -/
def u_look_many : Fn := { pars := 1, slots := 1, body := (.cons (.iff (.nt (.call 0 (.cons (.var 0) (.cons (.cst (.int 0)) (.cons (.cst (.int 3)) .nil))))) (.cons (.rse 4)
   .nil) .nil)
   .nil) }
/-- 52 plan_fits: web stand many plan places -/
def u_plan_fits : Fn := { pars := 4, slots := 5, body := (.cons (.iff (.nt (.isi .tuple (.var 3))) (.cons (.ret (.cst (.bool false)))
   .nil) .nil)
   (.cons (.fr [4] (.var 3) (.cons (.iff (.bo false (.cons (.nt (.call 49 (.cons (.var 0) (.cons (.var 1) (.cons (.var 4) .nil))))) (.cons (.cmp .gt (.b1 .len (.var 4)) (.var 2)) .nil))) (.cons (.ret (.cst (.bool false)))
   .nil) .nil)
   (.cons (.sef 1 (.call 44 (.cons (.var 0) (.cons (.call 48 (.cons (.var 1) (.cons (.var 4) .nil))) .nil))))
   .nil)))
   (.cons (.ret (.cst (.bool true)))
   .nil))) }
/-- 53 is_plan: web stand many plan -/
def u_is_plan : Fn := { pars := 4, slots := 4, body := (.cons (.exp (.call 39 (.cons (.var 0) (.cons (.var 1) .nil))))
   (.cons (.exp (.call 51 (.cons (.var 2) .nil)))
   (.cons (.ret (.call 52 (.cons (.var 0) (.cons (.var 1) (.cons (.var 2) (.cons (.var 3) .nil))))))
   .nil))) }
/-- 54 run: web stand plan made places -/
def u_run : Fn := { pars := 3, slots := 5, body := (.cons (.exp (.call 39 (.cons (.var 0) (.cons (.var 1) .nil))))
   (.cons (.iff (.nt (.call 52 (.cons (.var 0) (.cons (.var 1) (.cons (.ix (.var 0) (.cst (.int 0))) (.cons (.var 2) .nil)))))) (.cons (.rse 3)
   .nil) .nil)
   (.cons (.set 3 (.lst (.cons (.var 1) .nil)))
   (.cons (.fr [4] (.var 2) (.cons (.app 3 (.call 44 (.cons (.var 0) (.cons (.call 48 (.cons (.ix (.var 3) (.neg (.cst (.int 1)))) (.cons (.var 4) .nil))) .nil))))
   .nil))
   (.cons (.retv 3)
   .nil))))) }
/-- 55 left_by: web stand plan last -/
def u_left_by : Fn := { pars := 3, slots := 4, body := (.cons (.sef 3 (.ix (.call 54 (.cons (.var 0) (.cons (.var 1) (.cons (.var 2) .nil)))) (.neg (.cst (.int 1)))))
   (.cons (.ret (.bin .sub (.ix (.var 0) (.cst (.int 0))) (.b1 .len (.ix (.call 47 (.cons (.var 0) (.cons (.var 3) .nil))) (.cst (.int 0))))))
   .nil)) }
/-- 56 _law_plan: web stand many plan kept answer e -/
def u__law_plan : Fn := { pars := 0, slots := 0, body := .nil }
/-- 57 _law_drawn: script at web stand many made k some j free place -/
def u__law_drawn : Fn := { pars := 5, slots := 11, body := (.cons (.set 5 (.lst .nil))
   (.cons (.fr [6] (.rng1 (.call 8 (.cons (.var 0) (.cons (.var 1) (.cons (.cst (.int 4)) .nil))))) (.cons (.set 7 (.lst .nil))
   (.cons (.fr [8] (.rng1 (.var 4)) (.cons (.sef 9 (.comp (.var 10) [10] (.rng1 (.ix (.var 2) (.cst (.int 0)))) (.cmp .nin (.var 10) (.bin .add (.bin .add (.ix (.var 3) (.cst (.int 0))) (.ix (.var 3) (.cst (.int 1)))) (.b1 .tuple (.var 7))))))
   (.cons (.iff (.bo true (.cons (.cmp .ne (.var 9) (.lst .nil)) (.cons (.cmp .gt (.call 8 (.cons (.var 0) (.cons (.bin .add (.bin .add (.bin .add (.var 1) (.cst (.int 1))) (.bin .mul (.cst (.int 5)) (.var 6))) (.var 8)) (.cons (.cst (.int 5)) .nil)))) (.cst (.int 0))) .nil))) (.cons (.app 7 (.ix (.var 9) (.call 8 (.cons (.var 0) (.cons (.bin .add (.bin .add (.bin .add (.var 1) (.cst (.int 20))) (.bin .mul (.cst (.int 5)) (.var 6))) (.var 8)) (.cons (.b1 .len (.var 9)) .nil))))))
   .nil) .nil)
   .nil)))
   (.cons (.app 5 (.b1 .tuple (.b1 .sorted (.var 7))))
   (.cons (.frz [7] (.sef 3 (.call 13 (.cons (.var 2) (.cons (.var 3) (.cons (.var 7) .nil))))))
   .nil)))))
   (.cons (.ret (.b1 .tuple (.var 5)))
   .nil))) }
/-- 58 _law_is_plan: web stand many thing places place -/
def u__law_is_plan : Fn := { pars := 4, slots := 6, body := (.cons (.iff (.nt (.isi .tuple (.var 3))) (.cons (.ret (.cst (.bool false)))
   .nil) .nil)
   (.cons (.fr [4] (.var 3) (.cons (.iff (.bo false (.cons (.nt (.call 20 (.cons (.var 0) (.cons (.var 4) .nil)))) (.cons (.cmp .gt (.b1 .len (.var 4)) (.var 2)) .nil))) (.cons (.ret (.cst (.bool false)))
   .nil) .nil)
   (.cons (.iff (.cmp .ne (.comp (.var 5) [5] (.var 4) (.cmp .inn (.var 5) (.bin .add (.ix (.var 1) (.cst (.int 0))) (.ix (.var 1) (.cst (.int 1)))))) (.lst .nil)) (.cons (.ret (.cst (.bool false)))
   .nil) .nil)
   (.cons (.sef 1 (.call 13 (.cons (.var 0) (.cons (.var 1) (.cons (.var 4) .nil)))))
   .nil))))
   (.cons (.ret (.cst (.bool true)))
   .nil))) }
/-- 59 _law_are_told_apart: script web stand many plan k thing places -/
def u__law_are_told_apart : Fn := { pars := 0, slots := 0, body := .nil }
/-- 60 _law_is_worse: script web stand free many place worse one more each -/
def u__law_is_worse : Fn := { pars := 4, slots := 10, body := (.cons (.sef 4 (.ix (.var 1) (.cst (.int 0))))
   (.cons (.iff (.cmp .ne (.var 3) (.lst .nil)) (.cons (.sef 5 (.ix (.var 3) (.call 8 (.cons (.var 0) (.cons (.cst (.int 140)) (.cons (.b1 .len (.var 3)) .nil))))))
   (.cons (.sef 6 (.tup (.cons (.b1 .tuple (.b1 .sorted (.bin .add (.ix (.var 2) (.cst (.int 0))) (.tup (.cons (.var 5) .nil))))) (.cons (.ix (.var 2) (.cst (.int 1))) .nil))))
   (.cons (.iff (.cmp .ne (.comp (.var 7) [7] (.ix (.call 46 (.cons (.var 1) (.cons (.var 2) .nil))) (.cst (.int 0))) (.cmp .nin (.var 7) (.ix (.call 46 (.cons (.var 1) (.cons (.var 6) .nil))) (.cst (.int 0))))) (.lst .nil)) (.cons (.ret (.cst (.bool false)))
   .nil) .nil)
   .nil))) .nil)
   (.cons (.iff (.cmp .gt (.var 4) (.cst (.int 1))) (.cons (.sef 7 (.call 8 (.cons (.var 0) (.cons (.cst (.int 141)) (.cons (.var 4) .nil)))))
   (.cons (.sef 8 (.call 32 (.cons (.var 1) (.cons (.var 7) (.cons (.bin .mod (.bin .add (.bin .add (.var 7) (.cst (.int 1))) (.call 8 (.cons (.var 0) (.cons (.cst (.int 142)) (.cons (.bin .sub (.var 4) (.cst (.int 1))) .nil))))) (.var 4)) .nil)))))
   (.cons (.iff (.cmp .ne (.comp (.var 9) [9] (.ix (.call 46 (.cons (.var 1) (.cons (.var 2) .nil))) (.cst (.int 0))) (.cmp .nin (.var 9) (.ix (.call 46 (.cons (.var 8) (.cons (.var 2) .nil))) (.cst (.int 0))))) (.lst .nil)) (.cons (.ret (.cst (.bool false)))
   .nil) .nil)
   .nil))) .nil)
   (.cons (.ret (.cst (.bool true)))
   .nil)))) }
/-- 61 _law_is_renamed: script web stand places many here order left other goal some place -/
def u__law_is_renamed : Fn := { pars := 0, slots := 0, body := .nil }
/-- 62 part_from: web start gone found left place -/
def u_part_from : Fn := { pars := 3, slots := 6, body := (.cons (.set 3 (.lst (.cons (.var 1) .nil)))
   (.cons (.set 4 (.lst (.cons (.var 1) .nil)))
   (.cons (.whl (.cmp .ne (.var 4) (.lst .nil)) (.cons (.frp [5] 4 (.cons (.var 0) .nil) 4 (.cons (.iff (.bo true (.cons (.cmp .nin (.var 5) (.var 3)) (.cons (.cmp .nin (.var 5) (.var 2)) .nil))) (.cons (.app 3 (.var 5))
   (.cons (.app 4 (.var 5))
   .nil)) .nil)
   .nil))
   .nil))
   (.cons (.ret (.b1 .sorted (.var 3)))
   .nil)))) }
/-- 63 parts_without: web gone made place part -/
def u_parts_without : Fn := { pars := 2, slots := 5, body := (.cons (.set 2 (.lst .nil))
   (.cons (.fr [3] (.rng1 (.ix (.var 0) (.cst (.int 0)))) (.cons (.iff (.bo true (.cons (.cmp .nin (.var 3) (.var 1)) (.cons (.nt (.b1 .any (.comp (.cmp .inn (.var 3) (.var 4)) [4] (.var 2) (.cst (.bool true))))) .nil))) (.cons (.app 2 (.call 62 (.cons (.var 0) (.cons (.var 3) (.cons (.var 1) .nil)))))
   .nil) .nil)
   .nil))
   (.cons (.retv 2)
   .nil))) }
/-- 64 parts: web -/
def u_parts : Fn := { pars := 1, slots := 1, body := (.cons (.exp (.call 3 (.cons (.var 0) .nil)))
   (.cons (.ret (.call 63 (.cons (.var 0) (.cons (.lst .nil) .nil))))
   .nil)) }
/-- 65 holding: web many place -/
def u_holding : Fn := { pars := 1, slots := 3, body := (.cons (.exp (.call 3 (.cons (.var 0) .nil)))
   (.cons (.sef 1 (.b1 .len (.call 63 (.cons (.var 0) (.cons (.lst .nil) .nil)))))
   (.cons (.ret (.comp (.var 2) [2] (.rng1 (.ix (.var 0) (.cst (.int 0)))) (.cmp .gt (.b1 .len (.call 63 (.cons (.var 0) (.cons (.lst (.cons (.var 2) .nil)) .nil)))) (.var 1))))
   .nil))) }
/-- 66 bridges: web many made tie less one -/
def u_bridges : Fn := { pars := 1, slots := 6, body := (.cons (.exp (.call 3 (.cons (.var 0) .nil)))
   (.cons (.sef 1 (.b1 .len (.call 63 (.cons (.var 0) (.cons (.lst .nil) .nil)))))
   (.cons (.set 2 (.lst .nil))
   (.cons (.fr [3] (.ix (.var 0) (.cst (.int 1))) (.cons (.sef 4 (.tup (.cons (.ix (.var 0) (.cst (.int 0))) (.cons (.b1 .tuple (.comp (.var 5) [5] (.ix (.var 0) (.cst (.int 1))) (.cmp .ne (.var 5) (.var 3)))) .nil))))
   (.cons (.iff (.cmp .gt (.b1 .len (.call 63 (.cons (.var 4) (.cons (.lst .nil) .nil)))) (.var 1)) (.cons (.app 2 (.var 3))
   .nil) .nil)
   .nil)))
   (.cons (.retv 2)
   .nil))))) }
/-- 67 _law_groups: web gone made place some again one two -/
def u__law_groups : Fn := { pars := 2, slots := 8, body := (.cons (.set 2 (.lst .nil))
   (.cons (.fr [3] (.rng1 (.ix (.var 0) (.cst (.int 0)))) (.cons (.iff (.bo true (.cons (.cmp .nin (.var 3) (.var 1)) (.cons (.cmp .eq (.comp (.var 6) [6] (.var 2) (.cmp .inn (.var 3) (.var 6))) (.lst .nil)) .nil))) (.cons (.set 4 (.lst (.cons (.var 3) .nil)))
   (.cons (.fr [5] (.rng1 (.ix (.var 0) (.cst (.int 0)))) (.cons (.fr [6] (.b1 .list (.var 4)) (.cons (.ext 4 (.comp (.var 7) [7] (.call 10 (.cons (.var 0) (.cons (.var 6) .nil))) (.bo true (.cons (.cmp .nin (.var 7) (.var 4)) (.cons (.cmp .nin (.var 7) (.var 1)) .nil)))))
   .nil))
   .nil))
   (.cons (.app 2 (.b1 .sset (.var 4)))
   .nil))) .nil)
   .nil))
   (.cons (.retv 2)
   .nil))) }
/-- 68 _law_loose: script at web k tie -/
def u__law_loose : Fn := { pars := 2, slots := 5, body := (.cons (.sef 2 (.call 9 (.cons (.var 0) (.cons (.var 1) (.cons (.bin .add (.cst (.int 1)) (.call 8 (.cons (.var 0) (.cons (.bin .add (.var 1) (.cst (.int 70))) (.cons (.cst (.int 7)) .nil))))) .nil)))))
   (.cons (.iff (.cmp .eq (.call 8 (.cons (.var 0) (.cons (.bin .add (.var 1) (.cst (.int 71))) (.cons (.cst (.int 2)) .nil)))) (.cst (.int 0))) (.cons (.retv 2)
   .nil) .nil)
   (.cons (.ret (.tup (.cons (.ix (.var 2) (.cst (.int 0))) (.cons (.b1 .tuple (.comp (.var 4) [3, 4] (.enm (.ix (.var 2) (.cst (.int 1)))) (.cmp .gt (.call 8 (.cons (.var 0) (.cons (.bin .add (.bin .add (.var 1) (.cst (.int 72))) (.var 3)) (.cons (.cst (.int 3)) .nil)))) (.cst (.int 0))))) .nil))))
   .nil))) }
/-- 69 first_way: web one other far made place -/
def u_first_way : Fn := { pars := 3, slots := 6, body := (.cons (.exp (.call 3 (.cons (.var 0) .nil)))
   (.cons (.exp (.call 23 (.cons (.var 0) (.cons (.var 1) .nil))))
   (.cons (.exp (.call 23 (.cons (.var 0) (.cons (.var 2) .nil))))
   (.cons (.sef 3 (.call 5 (.cons (.var 0) (.cons (.var 2) .nil))))
   (.cons (.iff (.cmp .is (.ix (.var 3) (.var 1)) (.cst .none)) (.cons (.ret (.cst .none))
   .nil) .nil)
   (.cons (.set 4 (.lst (.cons (.var 1) .nil)))
   (.cons (.whl (.cmp .ne (.ix (.var 4) (.neg (.cst (.int 1)))) (.var 2)) (.cons (.app 4 (.b1 .min (.comp (.var 5) [5] (.call 4 (.cons (.var 0) (.cons (.ix (.var 4) (.neg (.cst (.int 1)))) .nil))) (.cmp .eq (.ix (.var 3) (.var 5)) (.bin .sub (.ix (.var 3) (.ix (.var 4) (.neg (.cst (.int 1))))) (.cst (.int 1)))))))
   .nil))
   (.cons (.retv 4)
   .nil)))))))) }
/-- 70 farthest: web best one far other -/
def u_farthest : Fn := { pars := 1, slots := 5, body := (.cons (.exp (.call 3 (.cons (.var 0) .nil)))
   (.cons (.sef 1 (.tup (.cons (.cst (.int 0)) (.cons (.cst (.int 0)) (.cons (.cst (.int 0)) .nil)))))
   (.cons (.fr [2] (.rng1 (.ix (.var 0) (.cst (.int 0)))) (.cons (.sef 3 (.call 5 (.cons (.var 0) (.cons (.var 2) .nil))))
   (.cons (.fr [4] (.rng2 (.bin .add (.var 2) (.cst (.int 1))) (.ix (.var 0) (.cst (.int 0)))) (.cons (.iff (.bo true (.cons (.cmp .isn (.ix (.var 3) (.var 4)) (.cst .none)) (.cons (.cmp .gt (.ix (.var 3) (.var 4)) (.ix (.var 1) (.cst (.int 2)))) .nil))) (.cons (.sef 1 (.tup (.cons (.var 2) (.cons (.var 4) (.cons (.ix (.var 3) (.var 4)) .nil)))))
   .nil) .nil)
   .nil))
   .nil)))
   (.cons (.retv 1)
   .nil)))) }
/-- 71 _law_ways: web one other rows made row place -/
def u__law_ways : Fn := { pars := 3, slots := 7, body := (.cons (.par [3, 4] [] (.cons (.lst (.cons (.lst (.cons (.var 1) .nil)) .nil)) (.cons (.lst .nil) .nil)))
   (.cons (.whl (.cmp .ne (.var 3) (.lst .nil)) (.cons (.pop 5 3)
   (.cons (.iff (.cmp .eq (.ix (.var 5) (.neg (.cst (.int 1)))) (.var 2)) (.cons (.app 4 (.var 5))
   .nil) (.cons (.ext 3 (.comp (.bin .add (.var 5) (.lst (.cons (.var 6) .nil))) [6] (.call 10 (.cons (.var 0) (.cons (.ix (.var 5) (.neg (.cst (.int 1)))) .nil))) (.cmp .nin (.var 6) (.var 5))))
   .nil))
   .nil)))
   (.cons (.retv 4)
   .nil))) }
/-- 72 times_of: web stand made turn place -/
def u_times_of : Fn := { pars := 2, slots := 5, body := (.cons (.set 2 (.comp (.ite (.cmp .inn (.var 4) (.ix (.var 1) (.cst (.int 0)))) (.cst (.int 0)) (.cst .none)) [4] (.rng1 (.ix (.var 0) (.cst (.int 0)))) (.cst (.bool true))))
   (.cons (.sef 3 (.cst (.int 0)))
   (.cons (.whl (.cmp .ne (.call 42 (.cons (.var 0) (.cons (.var 1) .nil))) (.lst .nil)) (.cons (.sef 3 (.bin .add (.var 3) (.cst (.int 1))))
   (.cons (.fr [4] (.call 42 (.cons (.var 0) (.cons (.var 1) .nil))) (.cons (.six 2 (.var 4) (.var 3))
   .nil))
   (.cons (.sef 1 (.call 44 (.cons (.var 0) (.cons (.var 1) .nil))))
   .nil))))
   (.cons (.retv 2)
   .nil)))) }
/-- 73 burn_times: web stand -/
def u_burn_times : Fn := { pars := 2, slots := 2, body := (.cons (.exp (.call 39 (.cons (.var 0) (.cons (.var 1) .nil))))
   (.cons (.ret (.call 72 (.cons (.var 0) (.cons (.var 1) .nil))))
   .nil)) }
/-- 74 fronts: web stand made most turn place time -/
def u_fronts : Fn := { pars := 2, slots := 7, body := (.cons (.sef 2 (.call 73 (.cons (.var 0) (.cons (.var 1) .nil))))
   (.cons (.sef 3 (.b1 .max (.bin .add (.lst (.cons (.cst (.int 0)) .nil)) (.comp (.var 6) [6] (.var 2) (.cmp .isn (.var 6) (.cst .none))))))
   (.cons (.ret (.comp (.comp (.var 5) [5] (.rng1 (.ix (.var 0) (.cst (.int 0)))) (.cmp .eq (.ix (.var 2) (.var 5)) (.var 4))) [4] (.rng2 (.cst (.int 1)) (.bin .add (.var 3) (.cst (.int 1)))) (.cst (.bool true))))
   .nil))) }
/-- 75 turns_left: web stand -/
def u_turns_left : Fn := { pars := 2, slots := 2, body := (.cons (.ret (.b1 .len (.call 74 (.cons (.var 0) (.cons (.var 1) .nil)))))
   .nil) }
/-- 76 safe_places: web stand made place -/
def u_safe_places : Fn := { pars := 2, slots := 4, body := (.cons (.sef 2 (.call 73 (.cons (.var 0) (.cons (.var 1) .nil))))
   (.cons (.ret (.comp (.var 3) [3] (.rng1 (.ix (.var 0) (.cst (.int 0)))) (.cmp .is (.ix (.var 2) (.var 3)) (.cst .none))))
   .nil)) }
/-- 77 sources: web stand place made one -/
def u_sources : Fn := { pars := 3, slots := 5, body := (.cons (.exp (.call 39 (.cons (.var 0) (.cons (.var 1) .nil))))
   (.cons (.exp (.call 23 (.cons (.var 0) (.cons (.var 2) .nil))))
   (.cons (.sef 3 (.call 72 (.cons (.var 0) (.cons (.var 1) .nil))))
   (.cons (.iff (.cmp .is (.ix (.var 3) (.var 2)) (.cst .none)) (.cons (.ret (.lst .nil))
   .nil) .nil)
   (.cons (.ret (.comp (.var 4) [4] (.ix (.var 1) (.cst (.int 0))) (.cmp .eq (.ix (.call 72 (.cons (.var 0) (.cons (.tup (.cons (.tup (.cons (.var 4) .nil)) (.cons (.ix (.var 1) (.cst (.int 1))) .nil))) .nil))) (.var 2)) (.ix (.var 3) (.var 2)))))
   .nil))))) }
/-- 78 _law_times: web stand made turn place -/
def u__law_times : Fn := { pars := 2, slots := 5, body := (.cons (.set 2 (.comp (.ite (.cmp .inn (.var 4) (.ix (.var 1) (.cst (.int 0)))) (.cst (.int 0)) (.cst .none)) [4] (.rng1 (.ix (.var 0) (.cst (.int 0)))) (.cst (.bool true))))
   (.cons (.fr [3] (.rng2 (.cst (.int 1)) (.cst (.int 8))) (.cons (.fr [4] (.call 12 (.cons (.var 0) (.cons (.var 1) .nil))) (.cons (.six 2 (.var 4) (.var 3))
   .nil))
   (.cons (.sef 1 (.call 13 (.cons (.var 0) (.cons (.var 1) (.cons (.tup .nil) .nil)))))
   .nil)))
   (.cons (.retv 2)
   .nil))) }
/-- 79 choices: some many made again longer ahead one -/
def u_choices : Fn := { pars := 2, slots := 7, body := (.cons (.sef 2 (.lst (.cons (.tup .nil) .nil)))
   (.cons (.fr [3] (.rng1 (.b2 false (.var 1) (.b1 .len (.var 0)))) (.cons (.set 4 (.lst .nil))
   (.cons (.fr [5] (.var 2) (.cons (.ext 4 (.comp (.bin .add (.var 5) (.tup (.cons (.var 6) .nil))) [6] (.var 0) (.bo false (.cons (.cmp .eq (.var 5) (.tup .nil)) (.cons (.cmp .gt (.var 6) (.ix (.var 5) (.neg (.cst (.int 1))))) .nil)))))
   .nil))
   (.cons (.frz [4] (.sef 2 (.var 4)))
   .nil))))
   (.cons (.retv 2)
   .nil))) }
/-- 80 free_places: web stand last place -/
def u_free_places : Fn := { pars := 2, slots := 4, body := (.cons (.sef 2 (.ix (.call 47 (.cons (.var 0) (.cons (.var 1) .nil))) (.cst (.int 0))))
   (.cons (.ret (.comp (.var 3) [3] (.var 2) (.cmp .nin (.var 3) (.ix (.var 1) (.cst (.int 0))))))
   .nil)) }
/-- 81 most_left: web stand many -/
def u_most_left : Fn := { pars := 0, slots := 0, body := .nil }
/-- 82 best_saved: web stand many best places here -/
def u_best_saved : Fn := { pars := 3, slots := 6, body := (.cons (.exp (.call 39 (.cons (.var 0) (.cons (.var 1) .nil))))
   (.cons (.exp (.call 51 (.cons (.var 2) .nil)))
   (.cons (.sef 3 (.cst .none))
   (.cons (.fr [4] (.call 79 (.cons (.call 80 (.cons (.var 0) (.cons (.var 1) .nil))) (.cons (.var 2) .nil))) (.cons (.sef 5 (.bin .sub (.ix (.var 0) (.cst (.int 0))) (.b1 .len (.ix (.call 47 (.cons (.var 0) (.cons (.call 48 (.cons (.var 1) (.cons (.var 4) .nil))) .nil))) (.cst (.int 0))))))
   (.cons (.iff (.bo false (.cons (.cmp .is (.var 3) (.cst .none)) (.cons (.cmp .gt (.var 5) (.ix (.var 3) (.cst (.int 0)))) .nil))) (.cons (.sef 3 (.tup (.cons (.var 5) (.cons (.var 4) .nil))))
   .nil) .nil)
   .nil)))
   (.cons (.ret (.ix (.var 3) (.cst (.int 1))))
   .nil))))) }
/-- 83 fewest_saved: web stand keep free many places made place -/
def u_fewest_saved : Fn := { pars := 3, slots := 8, body := (.cons (.exp (.call 39 (.cons (.var 0) (.cons (.var 1) .nil))))
   (.cons (.iff (.nt (.call 36 (.cons (.var 0) (.cons (.var 2) .nil)))) (.cons (.rse 3)
   .nil) .nil)
   (.cons (.sef 3 (.call 80 (.cons (.var 0) (.cons (.var 1) .nil))))
   (.cons (.fr [4] (.rng1 (.bin .add (.b1 .len (.var 3)) (.cst (.int 1)))) (.cons (.fr [5] (.call 79 (.cons (.var 3) (.cons (.var 4) .nil))) (.cons (.sef 6 (.call 72 (.cons (.var 0) (.cons (.call 48 (.cons (.var 1) (.cons (.var 5) .nil))) .nil))))
   (.cons (.iff (.b1 .all (.comp (.cmp .is (.ix (.var 6) (.var 7)) (.cst .none)) [7] (.var 2) (.cst (.bool true)))) (.cons (.retv 5)
   .nil) .nil)
   .nil)))
   .nil))
   (.cons (.ret (.cst .none))
   .nil))))) }
/-- 84 _law_class: kept kinds some -/
def u__law_class : Fn := { pars := 0, slots := 0, body := .nil }
/-- 85 _law_told: deed e -/
def u__law_told : Fn := { pars := 0, slots := 0, body := .nil }
/-- 86 _wall: k -/
def u__wall : Fn := { pars := 0, slots := 0, body := .nil }
/-- 87 _law_deed: script at now way free places web stand one other place -/
def u__law_deed : Fn := { pars := 3, slots := 11, body := (.cons (.unp [6, 7] (.var 2))
   (.cons (.sef 3 (.ix (.lst (.cons (.cst (.str (PySem.Str.ofString "turn"))) (.cons (.cst (.str (PySem.Str.ofString "turn"))) (.cons (.cst (.str (PySem.Str.ofString "turn"))) (.cons (.cst (.str (PySem.Str.ofString "light"))) (.cons (.cst (.str (PySem.Str.ofString "join"))) (.cons (.cst (.str (PySem.Str.ofString "part"))) .nil))))))) (.call 8 (.cons (.var 0) (.cons (.var 1) (.cons (.cst (.int 6)) .nil))))))
   (.cons (.par [8, 9] [8, 9] (.cons (.call 8 (.cons (.var 0) (.cons (.bin .add (.var 1) (.cst (.int 1))) (.cons (.bin .add (.ix (.var 6) (.cst (.int 0))) (.cst (.int 1))) .nil)))) (.cons (.call 8 (.cons (.var 0) (.cons (.bin .add (.var 1) (.cst (.int 2))) (.cons (.ix (.var 6) (.cst (.int 0))) .nil)))) .nil)))
   (.cons (.iff (.cmp .ne (.var 3) (.cst (.str (PySem.Str.ofString "turn")))) (.cons (.ret (.tup (.cons (.var 3) (.cons (.var 8) (.cons (.var 9) .nil)))))
   .nil) .nil)
   (.cons (.sef 4 (.comp (.var 10) [10] (.rng1 (.ix (.var 6) (.cst (.int 0)))) (.cmp .nin (.var 10) (.bin .add (.ix (.var 7) (.cst (.int 0))) (.ix (.var 7) (.cst (.int 1)))))))
   (.cons (.sef 5 (.b1 .tuple (.comp (.var 10) [10] (.var 4) (.cmp .eq (.call 8 (.cons (.var 0) (.cons (.bin .add (.bin .add (.var 1) (.cst (.int 3))) (.var 10)) (.cons (.cst (.int 5)) .nil)))) (.cst (.int 0))))))
   (.cons (.ret (.tup (.cons (.var 3) (.cons (.ite (.cmp .gt (.call 8 (.cons (.var 0) (.cons (.bin .add (.var 1) (.cst (.int 12))) (.cons (.cst (.int 9)) .nil)))) (.cst (.int 0))) (.var 5) (.tup (.cons (.var 8) (.cons (.var 8) .nil)))) (.cons (.cst (.int 0)) .nil)))))
   .nil))))))) }
/-- 88 _law_done: watch deed way one other -/
def u__law_done : Fn := { pars := 0, slots := 0, body := .nil }
/-- 89 _law_begin: script web -/
def u__law_begin : Fn := { pars := 1, slots := 2, body := (.cons (.sef 1 (.call 9 (.cons (.var 0) (.cons (.cst (.int 10)) (.cons (.bin .add (.cst (.int 1)) (.call 8 (.cons (.var 0) (.cons (.cst (.int 80)) (.cons (.cst (.int 7)) .nil))))) .nil)))))
   (.cons (.ret (.tup (.cons (.var 1) (.cons (.call 11 (.cons (.var 0) (.cons (.cst (.int 200)) (.cons (.var 1) .nil)))) .nil))))
   .nil)) }
/-- 90 best_plan: web stand many finder made places -/
def u_best_plan : Fn := { pars := 0, slots := 0, body := .nil }
/-- 91 fewest_to_leave: web stand goal some many -/
def u_fewest_to_leave : Fn := { pars := 0, slots := 0, body := .nil }
/-- 92 can_be_left: web stand many last place -/
def u_can_be_left : Fn := { pars := 3, slots := 5, body := (.cons (.exp (.call 39 (.cons (.var 0) (.cons (.var 1) .nil))))
   (.cons (.exp (.call 51 (.cons (.var 2) .nil)))
   (.cons (.sef 3 (.ite (.cmp .gt (.var 2) (.cst (.int 0))) (.ix (.var 1) (.cst (.int 0))) (.ix (.call 47 (.cons (.var 0) (.cons (.var 1) .nil))) (.cst (.int 0)))))
   (.cons (.ret (.comp (.var 4) [4] (.rng1 (.ix (.var 0) (.cst (.int 0)))) (.cmp .nin (.var 4) (.var 3))))
   .nil)))) }
/-- 93 _law_best: web stand many known free danger rows some burnt saved later place one -/
def u__law_best : Fn := { pars := 0, slots := 0, body := .nil }
/-- 94 _law_are_rays_told: rays goal place -/
def u__law_are_rays_told : Fn := { pars := 0, slots := 3, body := (.cons (.sef 0 (.tup (.cons (.cst (.int 7)) (.cons (.b1 .tuple (.comp (.tup (.cons (.cst (.int 0)) (.cons (.var 2) .nil))) [2] (.rng2 (.cst (.int 1)) (.cst (.int 7))) (.cst (.bool true)))) .nil))))
   (.cons (.ret (.cmp .eq (.comp (.call 91 (.cons (.var 0) (.cons (.tup (.cons (.tup (.cons (.cst (.int 0)) .nil)) (.cons (.tup .nil) .nil))) (.cons (.var 1) .nil)))) [1] (.tup (.cons (.cst (.int 3)) (.cons (.cst (.int 4)) .nil))) (.cst (.bool true))) (.lst (.cons (.cst (.int 3)) (.cons (.cst .none) .nil)))))
   .nil)) }
/-- 95 why_in: finder stand goal rows places -/
def u_why_in : Fn := { pars := 0, slots := 0, body := .nil }
/-- 96 why_no_more: web stand many goal finder -/
def u_why_no_more : Fn := { pars := 0, slots := 0, body := .nil }
/-- 97 shows: web stand many goal thing some places row -/
def u_shows : Fn := { pars := 0, slots := 0, body := .nil }
/-- 98 is_why: web stand many goal thing -/
def u_is_why : Fn := { pars := 5, slots := 5, body := (.cons (.exp (.call 39 (.cons (.var 0) (.cons (.var 1) .nil))))
   (.cons (.exp (.call 51 (.cons (.var 2) .nil)))
   (.cons (.ret (.call 97 (.cons (.var 0) (.cons (.var 1) (.cons (.var 2) (.cons (.var 3) (.cons (.var 4) .nil)))))))
   .nil))) }
/-- 99 _law_choices: web stand many some place row -/
def u__law_choices : Fn := { pars := 0, slots := 0, body := .nil }
/-- 100 _law_is_paper: web stand many goal thing rows places part -/
def u__law_is_paper : Fn := { pars := 0, slots := 0, body := .nil }
/-- 101 _law_is_kept: script web stand rows size free one more place worse better many -/
def u__law_is_kept : Fn := { pars := 4, slots := 12, body := (.cons (.sef 4 (.ix (.var 1) (.cst (.int 0))))
   (.cons (.iff (.cmp .gt (.var 4) (.cst (.int 1))) (.cons (.sef 6 (.call 8 (.cons (.var 0) (.cons (.cst (.int 140)) (.cons (.var 4) .nil)))))
   (.cons (.sef 7 (.call 32 (.cons (.var 1) (.cons (.var 6) (.cons (.bin .mod (.bin .add (.bin .add (.var 6) (.cst (.int 1))) (.call 8 (.cons (.var 0) (.cons (.cst (.int 141)) (.cons (.bin .sub (.var 4) (.cst (.int 1))) .nil))))) (.var 4)) .nil)))))
   (.cons (.iff (.cmp .ne (.comp (.var 11) [11] (.rng1 (.cst (.int 3))) (.cmp .gt (.call 81 (.cons (.var 7) (.cons (.var 2) (.cons (.var 11) .nil)))) (.ix (.var 3) (.var 11)))) (.lst .nil)) (.cons (.ret (.cst (.bool false)))
   .nil) .nil)
   .nil))) .nil)
   (.cons (.sef 5 (.comp (.var 8) [8] (.rng1 (.var 4)) (.cmp .nin (.var 8) (.bin .add (.ix (.var 2) (.cst (.int 0))) (.ix (.var 2) (.cst (.int 1)))))))
   (.cons (.iff (.cmp .ne (.var 5) (.lst .nil)) (.cons (.sef 8 (.ix (.var 5) (.call 8 (.cons (.var 0) (.cons (.cst (.int 142)) (.cons (.b1 .len (.var 5)) .nil))))))
   (.cons (.sef 9 (.tup (.cons (.b1 .tuple (.b1 .sorted (.bin .add (.ix (.var 2) (.cst (.int 0))) (.tup (.cons (.var 8) .nil))))) (.cons (.ix (.var 2) (.cst (.int 1))) .nil))))
   (.cons (.iff (.cmp .gt (.call 81 (.cons (.var 1) (.cons (.var 9) (.cons (.cst (.int 1)) .nil)))) (.ix (.var 3) (.cst (.int 1)))) (.cons (.ret (.cst (.bool false)))
   .nil) .nil)
   (.cons (.sef 10 (.tup (.cons (.ix (.var 2) (.cst (.int 0))) (.cons (.b1 .tuple (.b1 .sorted (.bin .add (.ix (.var 2) (.cst (.int 1))) (.tup (.cons (.var 8) .nil))))) .nil))))
   (.cons (.iff (.cmp .lt (.call 81 (.cons (.var 1) (.cons (.var 10) (.cons (.cst (.int 1)) .nil)))) (.ix (.var 3) (.cst (.int 1)))) (.cons (.ret (.cst (.bool false)))
   .nil) .nil)
   .nil))))) .nil)
   (.cons (.ret (.cst (.bool true)))
   .nil))))) }
/-- 102 web_text: web one other -/
def u_web_text : Fn := { pars := 0, slots := 0, body := .nil }
/-- 103 digit: word -/
def u_digit : Fn := { pars := 1, slots := 1, body := (.cons (.iff (.bo false (.cons (.cmp .ne (.b1 .len (.var 0)) (.cst (.int 1))) (.cons (.cmp .nin (.var 0) (.cst (.str (PySem.Str.ofString "0123456789")))) .nil))) (.cons (.rse 7)
   .nil) .nil)
   (.cons (.ret (.b1 .int (.var 0)))
   .nil)) }
/-- 104 read_web: text words ties word web -/
def u_read_web : Fn := { pars := 0, slots := 0, body := .nil }
/-- 105 stand_text: web stand place -/
def u_stand_text : Fn := { pars := 0, slots := 0, body := .nil }
/-- 106 read_stand: web text burnt saved stand place sign -/
def u_read_stand : Fn := { pars := 2, slots := 7, body := (.cons (.exp (.call 3 (.cons (.var 0) .nil)))
   (.cons (.iff (.bo false (.cons (.cmp .ne (.b1 .len (.var 1)) (.ix (.var 0) (.cst (.int 0)))) (.cons (.nt (.b1 .all (.comp (.cmp .inn (.var 6) (.glb 1)) [6] (.var 1) (.cst (.bool true))))) .nil))) (.cons (.rse 7)
   .nil) .nil)
   (.cons (.sef 2 (.b1 .tuple (.comp (.var 5) [5, 6] (.enm (.var 1)) (.cmp .eq (.var 6) (.cst (.str (PySem.Str.ofString "*")))))))
   (.cons (.sef 3 (.b1 .tuple (.comp (.var 5) [5, 6] (.enm (.var 1)) (.cmp .eq (.var 6) (.cst (.str (PySem.Str.ofString "#")))))))
   (.cons (.sef 4 (.tup (.cons (.var 2) (.cons (.var 3) .nil))))
   (.cons (.iff (.nt (.call 37 (.cons (.var 0) (.cons (.var 4) .nil)))) (.cons (.rse 7)
   .nil) .nil)
   (.cons (.retv 4)
   .nil))))))) }
/-- 107 watch_text: watch -/
def u_watch_text : Fn := { pars := 0, slots := 0, body := .nil }
/-- 108 read_watch: text lines web made -/
def u_read_watch : Fn := { pars := 0, slots := 0, body := .nil }
/-- 109 _law_watch_text: now made signs web stand one other place -/
def u__law_watch_text : Fn := { pars := 0, slots := 0, body := .nil }
/-- 110 _law_spoilt: text cell signs at sign on way -/
def u__law_spoilt : Fn := { pars := 3, slots := 7, body := (.cons (.sef 3 (.bin .mod (.var 1) (.bin .add (.b1 .len (.var 0)) (.cst (.int 1)))))
   (.cons (.sef 4 (.ix (.var 2) (.bin .mod (.bin .fdiv (.var 1) (.cst (.int 1000))) (.b1 .len (.var 2)))))
   (.cons (.sef 5 (.bin .add (.bin .add (.var 3) (.cst (.int 1))) (.bin .mod (.bin .fdiv (.var 1) (.cst (.int 7))) (.cst (.int 9)))))
   (.cons (.sef 6 (.bin .mod (.bin .fdiv (.var 1) (.cst (.int 100000))) (.cst (.int 8))))
   (.cons (.iff (.cmp .lt (.var 6) (.cst (.int 2))) (.cons (.ret (.bin .add (.bin .add (.slc (.var 0) (.cst .none) (.var 3)) (.var 4)) (.slc (.var 0) (.var 3) (.cst .none))))
   .nil) .nil)
   (.cons (.iff (.cmp .eq (.var 6) (.cst (.int 2))) (.cons (.ret (.bin .add (.slc (.var 0) (.cst .none) (.var 3)) (.slc (.var 0) (.bin .add (.var 3) (.cst (.int 1))) (.cst .none))))
   .nil) .nil)
   (.cons (.iff (.cmp .lt (.var 6) (.cst (.int 5))) (.cons (.ret (.bin .add (.bin .add (.slc (.var 0) (.cst .none) (.var 3)) (.var 4)) (.slc (.var 0) (.bin .add (.var 3) (.cst (.int 1))) (.cst .none))))
   .nil) .nil)
   (.cons (.iff (.cmp .eq (.var 6) (.cst (.int 5))) (.cons (.ret (.bin .add (.slc (.var 0) (.cst .none) (.var 3)) (.slc (.var 0) (.var 5) (.cst .none))))
   .nil) .nil)
   (.cons (.iff (.cmp .eq (.var 6) (.cst (.int 6))) (.cons (.ret (.bin .add (.slc (.var 0) (.cst .none) (.var 5)) (.slc (.var 0) (.var 3) (.cst .none))))
   .nil) .nil)
   (.cons (.ret (.ix (.lst (.cons (.bin .add (.var 0) (.cst (.str (PySem.Str.ofString " ")))) (.cons (.bin .add (.cst (.str (PySem.Str.ofString " "))) (.var 0)) (.cons (.bin .add (.slc (.var 0) (.var 3) (.cst .none)) (.slc (.var 0) (.cst .none) (.var 3))) (.cons (.cst (.str (PySem.Str.ofString ""))) (.cons (.bin .add (.var 0) (.var 0)) .nil)))))) (.bin .mod (.var 1) (.cst (.int 5)))))
   .nil)))))))))) }
/-- 111 _law_stays: deed told kept -/
def u__law_stays : Fn := { pars := 0, slots := 0, body := .nil }
/-- 112 look_tree: web start -/
def u_look_tree : Fn := { pars := 2, slots := 2, body := (.cons (.iff (.nt (.call 6 (.cons (.var 0) .nil))) (.cons (.rse 5)
   .nil) .nil)
   (.cons (.exp (.call 23 (.cons (.var 0) (.cons (.var 1) .nil))))
   .nil)) }
/-- 113 above_of: web start far made place one -/
def u_above_of : Fn := { pars := 2, slots := 6, body := (.cons (.sef 2 (.call 5 (.cons (.var 0) (.cons (.var 1) .nil))))
   (.cons (.set 3 (.lst .nil))
   (.cons (.fr [4] (.rng1 (.ix (.var 0) (.cst (.int 0)))) (.cons (.app 3 (.ix (.bin .add (.comp (.var 5) [5] (.call 4 (.cons (.var 0) (.cons (.var 4) .nil))) (.cmp .lt (.ix (.var 2) (.var 5)) (.ix (.var 2) (.var 4)))) (.lst (.cons (.cst .none) .nil))) (.cst (.int 0))))
   .nil))
   (.cons (.retv 3)
   .nil)))) }
/-- 114 parents: web start -/
def u_parents : Fn := { pars := 2, slots := 2, body := (.cons (.exp (.call 112 (.cons (.var 0) (.cons (.var 1) .nil))))
   (.cons (.ret (.call 113 (.cons (.var 0) (.cons (.var 1) .nil))))
   .nil)) }
/-- 115 below_in: web start place above made one here -/
def u_below_in : Fn := { pars := 3, slots := 7, body := (.cons (.sef 3 (.call 113 (.cons (.var 0) (.cons (.var 1) .nil))))
   (.cons (.set 4 (.lst .nil))
   (.cons (.fr [5] (.rng1 (.ix (.var 0) (.cst (.int 0)))) (.cons (.sef 6 (.var 5))
   (.cons (.whl (.bo true (.cons (.cmp .isn (.var 6) (.cst .none)) (.cons (.cmp .ne (.var 6) (.var 2)) .nil))) (.cons (.sef 6 (.ix (.var 3) (.var 6)))
   .nil))
   (.cons (.iff (.cmp .eq (.var 6) (.var 2)) (.cons (.app 4 (.var 5))
   .nil) .nil)
   .nil))))
   (.cons (.retv 4)
   .nil)))) }
/-- 116 below: web start place -/
def u_below : Fn := { pars := 3, slots := 3, body := (.cons (.exp (.call 112 (.cons (.var 0) (.cons (.var 1) .nil))))
   (.cons (.exp (.call 23 (.cons (.var 0) (.cons (.var 2) .nil))))
   (.cons (.ret (.call 115 (.cons (.var 0) (.cons (.var 1) (.cons (.var 2) .nil)))))
   .nil))) }
/-- 117 greedy_plan: web start many far lost made deep next_ones ranked saved place size -/
def u_greedy_plan : Fn := { pars := 3, slots := 12, body := (.cons (.exp (.call 112 (.cons (.var 0) (.cons (.var 1) .nil))))
   (.cons (.exp (.call 51 (.cons (.var 2) .nil)))
   (.cons (.sef 3 (.call 5 (.cons (.var 0) (.cons (.var 1) .nil))))
   (.cons (.set 4 (.lst (.cons (.var 1) .nil)))
   (.cons (.set 5 (.lst .nil))
   (.cons (.sef 6 (.cst (.int 0)))
   (.cons (.whl (.cst (.bool true)) (.cons (.sef 6 (.bin .add (.var 6) (.cst (.int 1))))
   (.cons (.sef 7 (.comp (.var 10) [10] (.rng1 (.ix (.var 0) (.cst (.int 0)))) (.bo true (.cons (.cmp .eq (.ix (.var 3) (.var 10)) (.var 6)) (.cons (.cmp .inn (.ix (.call 113 (.cons (.var 0) (.cons (.var 1) .nil))) (.var 10)) (.var 4)) .nil)))))
   (.cons (.iff (.cmp .eq (.var 7) (.lst .nil)) (.cons (.ret (.b1 .tuple (.var 5)))
   .nil) .nil)
   (.cons (.sef 8 (.b1 .sorted (.comp (.tup (.cons (.bin .sub (.cst (.int 0)) (.b1 .len (.call 115 (.cons (.var 0) (.cons (.var 1) (.cons (.var 10) .nil)))))) (.cons (.var 10) .nil))) [10] (.var 7) (.cst (.bool true)))))
   (.cons (.sef 9 (.comp (.var 10) [11, 10] (.slc (.var 8) (.cst .none) (.var 2)) (.cst (.bool true))))
   (.cons (.app 5 (.b1 .tuple (.b1 .sorted (.var 9))))
   (.cons (.ext 4 (.comp (.var 10) [10] (.var 7) (.cmp .nin (.var 10) (.var 9))))
   .nil))))))))
   .nil))))))) }
/-- 118 level_sets: web start many far above made deep longer plan lost next_ones places place -/
def u_level_sets : Fn := { pars := 3, slots := 13, body := (.cons (.sef 3 (.call 5 (.cons (.var 0) (.cons (.var 1) .nil))))
   (.cons (.sef 4 (.call 113 (.cons (.var 0) (.cons (.var 1) .nil))))
   (.cons (.sef 5 (.lst (.cons (.tup (.cons (.tup .nil) (.cons (.lst (.cons (.var 1) .nil)) .nil))) .nil)))
   (.cons (.fr [6] (.rng2 (.cst (.int 1)) (.bin .add (.b1 .max (.var 3)) (.cst (.int 1)))) (.cons (.set 7 (.lst .nil))
   (.cons (.fr [8, 9] (.var 5) (.cons (.sef 10 (.comp (.var 12) [12] (.rng1 (.ix (.var 0) (.cst (.int 0)))) (.bo true (.cons (.cmp .eq (.ix (.var 3) (.var 12)) (.var 6)) (.cons (.cmp .inn (.ix (.var 4) (.var 12)) (.var 9)) .nil)))))
   (.cons (.fr [11] (.call 119 (.cons (.var 10) (.cons (.var 2) .nil))) (.cons (.app 7 (.tup (.cons (.bin .add (.var 8) (.tup (.cons (.var 11) .nil))) (.cons (.bin .add (.var 9) (.comp (.var 12) [12] (.var 10) (.cmp .nin (.var 12) (.var 11)))) .nil))))
   .nil))
   .nil)))
   (.cons (.frz [7] (.sef 5 (.var 7)))
   .nil))))
   (.cons (.retv 5)
   .nil))))) }
/-- 119 sets_of: some many made one ahead -/
def u_sets_of : Fn := { pars := 2, slots := 5, body := (.cons (.sef 2 (.lst (.cons (.tup .nil) .nil)))
   (.cons (.fr [3] (.var 0) (.cons (.sef 2 (.bin .add (.var 2) (.comp (.bin .add (.var 4) (.tup (.cons (.var 3) .nil))) [4] (.var 2) (.cmp .lt (.b1 .len (.var 4)) (.var 1)))))
   .nil))
   (.cons (.retv 2)
   .nil))) }
/-- 120 most_left_on_tree: web start many plan lost -/
def u_most_left_on_tree : Fn := { pars := 3, slots := 5, body := (.cons (.exp (.call 112 (.cons (.var 0) (.cons (.var 1) .nil))))
   (.cons (.exp (.call 51 (.cons (.var 2) .nil)))
   (.cons (.ret (.bin .sub (.ix (.var 0) (.cst (.int 0))) (.b1 .min (.comp (.b1 .len (.var 4)) [3, 4] (.call 118 (.cons (.var 0) (.cons (.var 1) (.cons (.var 2) .nil)))) (.cst (.bool true))))))
   .nil))) }
/-- 121 _law_tree: script at many order left ties place other -/
def u__law_tree : Fn := { pars := 3, slots := 8, body := (.cons (.set 3 (.lst .nil))
   (.cons (.set 4 (.b1 .list (.rng1 (.var 2))))
   (.cons (.whl (.cmp .ne (.var 4) (.lst .nil)) (.cons (.apop 3 4 (.call 8 (.cons (.var 0) (.cons (.bin .add (.var 1) (.b1 .len (.var 4))) (.cons (.b1 .len (.var 4)) .nil)))))
   .nil))
   (.cons (.set 5 (.lst .nil))
   (.cons (.fr [6] (.rng2 (.cst (.int 1)) (.var 2)) (.cons (.sef 7 (.call 8 (.cons (.var 0) (.cons (.bin .add (.bin .add (.var 1) (.cst (.int 10))) (.var 6)) (.cons (.var 6) .nil)))))
   (.cons (.app 5 (.b1 .tuple (.b1 .sorted (.lst (.cons (.ix (.var 3) (.var 6)) (.cons (.ix (.var 3) (.var 7)) .nil))))))
   .nil)))
   (.cons (.ret (.tup (.cons (.var 2) (.cons (.b1 .tuple (.b1 .sorted (.var 5))) .nil))))
   .nil)))))) }
/-- 122 _law_refuses: script web start size off bad what -/
def u__law_refuses : Fn := { pars := 0, slots := 0, body := .nil }
/-- 123 _law_late: row one -/
def u__law_late : Fn := { pars := 1, slots := 2, body := (.cons (.ret (.comp (.ite (.cmp .is (.var 1) (.cst .none)) (.cst (.int 99)) (.var 1)) [1] (.var 0) (.cst (.bool true))))
   .nil) }
/-- 124 _law_text: web text one other -/
def u__law_text : Fn := { pars := 0, slots := 0, body := .nil }
/-- 125 _law_read: text ties k web word -/
def u__law_read : Fn := { pars := 0, slots := 0, body := .nil }
/-- 126 _law_lists: web stand tree made -/
def u__law_lists : Fn := { pars := 3, slots := 4, body := (.cons (.sef 3 (.lst (.cons (.call 24 (.cons (.var 0) (.cons (.cst (.int 0)) .nil))) (.cons (.call 25 (.cons (.var 0) (.cons (.cst (.int 0)) .nil))) (.cons (.call 41 (.cons (.var 0) (.cons (.var 1) .nil))) (.cons (.call 54 (.cons (.var 0) (.cons (.var 1) (.cons (.tup (.cons (.tup .nil) .nil)) .nil)))) .nil))))))
   (.cons (.ret (.bin .add (.var 3) (.lst (.cons (.call 92 (.cons (.var 0) (.cons (.var 1) (.cons (.cst (.int 1)) .nil)))) (.cons (.call 114 (.cons (.var 2) (.cons (.cst (.int 0)) .nil))) (.cons (.call 116 (.cons (.var 2) (.cons (.cst (.int 0)) (.cons (.cst (.int 0)) .nil)))) .nil))))))
   .nil)) }
def UT : List Fn := [u_is_whole, u_is_tie, u_is_web, u_look_web, u_beside, u_far_from, u_is_tree, u__law_cell, u__law_pick, u__law_web, u__law_beside, u__law_stand, u__law_danger, u__law_spread, u__law_end, u__law_places, u__law_put, u__law_spoilt_thing, u__law_whole, u__law_is_web, u__law_is_row, u__law_is_stand, u__law_word, u_look_place, u_neighbours, u_depths, u_renamed, u_look_size, u_line_of, u_ring, u_full, u_star, u_with_tie, u_without_tie, u__law_far, u__law_kinds, u_is_rising, u_stand_fits, u_is_stand, u_look_stand, u_begun, u_in_danger, u_threatened, u_spread, u_spread_once, u_is_over, u_burnt_out, u_left_alone, u_saved_too, u_may_save, u_one_turn, u_look_many, u_plan_fits, u_is_plan, u_run, u_left_by, u__law_plan, u__law_drawn, u__law_is_plan, u__law_are_told_apart, u__law_is_worse, u__law_is_renamed, u_part_from, u_parts_without, u_parts, u_holding, u_bridges, u__law_groups, u__law_loose, u_first_way, u_farthest, u__law_ways, u_times_of, u_burn_times, u_fronts, u_turns_left, u_safe_places, u_sources, u__law_times, u_choices, u_free_places, u_most_left, u_best_saved, u_fewest_saved, u__law_class, u__law_told, u__wall, u__law_deed, u__law_done, u__law_begin, u_best_plan, u_fewest_to_leave, u_can_be_left, u__law_best, u__law_are_rays_told, u_why_in, u_why_no_more, u_shows, u_is_why, u__law_choices, u__law_is_paper, u__law_is_kept, u_web_text, u_digit, u_read_web, u_stand_text, u_read_stand, u_watch_text, u_read_watch, u__law_watch_text, u__law_spoilt, u__law_stays, u_look_tree, u_above_of, u_parents, u_below_in, u_below, u_greedy_plan, u_level_sets, u_sets_of, u_most_left_on_tree, u__law_tree, u__law_refuses, u__law_late, u__law_text, u__law_read, u__law_lists]
end HF

set_option Elab.async false
set_option linter.all false
set_option maxRecDepth 100000
set_option maxHeartbeats 4000000
/-! ### W: sorted lists, sets of places -/
namespace HF
open PySem

theorem sorted_ext : ∀ {l m : List Int}, l.Pairwise (· < ·) → m.Pairwise (· < ·) → (∀ x, x ∈ l ↔ x ∈ m) → l = m
  | [], [], _, _, _ => rfl
  | [], b :: m, _, _, h => absurd ((h b).mpr List.mem_cons_self) (by simp)
  | a :: l, [], _, _, h => absurd ((h a).mp List.mem_cons_self) (by simp)
  | a :: l, b :: m, hl, hm, h => by
    rw [List.pairwise_cons] at hl hm
    have e : a = b := by
      rcases List.mem_cons.mp ((h a).mp List.mem_cons_self) with e | e
      · exact e
      · rcases List.mem_cons.mp ((h b).mpr List.mem_cons_self) with e2 | e2
        · exact e2.symm
        · have := hl.1 b e2
          have := hm.1 a e
          omega
    subst e
    rw [sorted_ext hl.2 hm.2 fun x => ?_]
    constructor
    · intro hx
      rcases List.mem_cons.mp ((h x).mp (List.mem_cons_of_mem _ hx)) with e | e
      · have := hl.1 x hx
        omega
      · exact e
    · intro hx
      rcases List.mem_cons.mp ((h x).mpr (List.mem_cons_of_mem _ hx)) with e | e
      · have := hm.1 x hx
        omega
      · exact e
/-- the places of a web -/
def rg (n : Nat) : List Int := (List.range n).map Int.ofNat
theorem mem_rg {n : Nat} {x : Int} : x ∈ rg n ↔ 0 ≤ x ∧ x < n := by
  unfold rg
  rw [List.mem_map]
  constructor
  · rintro ⟨i, hi, rfl⟩
    rw [List.mem_range] at hi
    simp only [Int.ofNat_eq_natCast]
    omega
  · intro h
    exact ⟨x.toNat, List.mem_range.mpr (by omega), by simp only [Int.ofNat_eq_natCast]; omega⟩
theorem rg_sorted (n : Nat) : (rg n).Pairwise (· < ·) := by
  unfold rg
  rw [List.pairwise_map]
  exact (List.pairwise_lt_range (n := n)).imp fun h => by simp only [Int.ofNat_eq_natCast]; omega
theorem rg_length (n : Nat) : (rg n).length = n := by simp [rg]
theorem filt_sorted {l : List Int} (h : l.Pairwise (· < ·)) (p : Int → Bool) : (l.filter p).Pairwise (· < ·) := h.filter p
/-- the places at which p holds -/
abbrev st (n : Nat) (p : Int → Bool) : List Int := (rg n).filter p
theorem st_sorted (n : Nat) (p : Int → Bool) : (st n p).Pairwise (· < ·) := filt_sorted (rg_sorted n) p
theorem mem_st {n : Nat} {p : Int → Bool} {x : Int} : x ∈ st n p ↔ (0 ≤ x ∧ x < n) ∧ p x = true := by rw [List.mem_filter, mem_rg]
theorem st_congr {n : Nat} {p q : Int → Bool} (h : ∀ x : Int, 0 ≤ x → x < n → p x = q x) : st n p = st n q := List.filter_congr fun x hx => h x (mem_rg.mp hx).1 (mem_rg.mp hx).2
theorem st_ext {n : Nat} {p q : Int → Bool} : st n p = st n q ↔ ∀ x : Int, 0 ≤ x → x < n → p x = q x := by
  refine ⟨fun h x h0 h1 => ?_, st_congr⟩
  have := @mem_st n p x
  rw [h, mem_st] at this
  cases hp : p x <;> cases hq : q x <;> simp_all
theorem st_nil {n : Nat} {p : Int → Bool} : st n p = [] ↔ ∀ x : Int, 0 ≤ x → x < n → p x = false := by
  rw [List.filter_eq_nil_iff]
  constructor
  · intro h x h0 h1
    have := h x (mem_rg.mpr ⟨h0, h1⟩)
    simpa using this
  · intro h x hx
    rw [h x (mem_rg.mp hx).1 (mem_rg.mp hx).2]
    simp
theorem st_len (n : Nat) (p : Int → Bool) : (st n p).length ≤ n := by
  have := List.length_filter_le p (rg n)
  rw [rg_length] at this
  exact this
/-- a rising list of places is such a set -/
theorem st_of {n : Nat} {l : List Int} (h : l.Pairwise (· < ·)) (hb : ∀ x ∈ l, 0 ≤ x ∧ x < n) : l = st n fun x => decide (x ∈ l) :=
  sorted_ext h (st_sorted n _) fun x => by
    rw [mem_st, decide_eq_true_eq]
    exact ⟨fun hx => ⟨hb x hx, hx⟩, fun hx => hx.2⟩
/-- sorting -/
theorem isort_st {n : Nat} {l : List Int} {p : Int → Bool} (nd : l.Nodup) (h : ∀ x, x ∈ l ↔ (0 ≤ x ∧ x < n) ∧ p x = true) : isort ltI l = st n p := by
  symm
  refine isortI_eq ?_ ((st_sorted n p).imp fun h => by omega)
  refine (List.perm_ext_iff_of_nodup ((st_sorted n p).imp fun h => by omega) nd).mpr fun x => ?_
  rw [mem_st, h]
theorem isort_sorted_id {l : List Int} (h : l.Pairwise (· < ·)) : isort ltI l = l := (isortI_eq (List.Perm.refl _) (h.imp fun h => by omega)).symm
theorem uins_lt {x : Int} : ∀ {l : List Int}, l.Pairwise (· < ·) → (∀ y ∈ l, x < y) → uins ltI x l = x :: l
  | [], _, _ => rfl
  | y :: r, h, hx => by
    have hy := hx y List.mem_cons_self
    have h1 : ltI y x = false := by simp [ltI]; omega
    have h2 : ltI x y = true := by simp [ltI]; omega
    simp only [uins, h1, h2, if_true, Bool.false_eq_true, if_false]
theorem usort_id {l : List Int} (h : l.Pairwise (· < ·)) : usort ltI l = l := by
  induction l with
  | nil => rfl
  | cons x l ih =>
    rw [List.pairwise_cons] at h
    simp only [usort]
    rw [ih h.2, uins_lt h.2 h.1]
/-- counting -/
theorem filter_len_lt {α : Type} {p q : α → Bool} : ∀ {l : List α}, (∀ x ∈ l, p x = true → q x = true) → (∃ x ∈ l, p x = false ∧ q x = true) → (l.filter p).length < (l.filter q).length
  | [], _, h => by obtain ⟨x, hx, _⟩ := h; simp at hx
  | a :: l, h1, h2 => by
    have le : (l.filter p).length ≤ (l.filter q).length := by
      clear h2
      induction l with
      | nil => simp
      | cons b l ih =>
        have ih' := ih fun x hx => h1 x (by simp at hx ⊢; rcases hx with e | e <;> simp [e])
        cases hp : p b with
        | true => rw [List.filter_cons_of_pos hp, List.filter_cons_of_pos (h1 b (by simp) hp)]; simpa using ih'
        | false =>
          rw [List.filter_cons_of_neg (by simp [hp])]
          cases hq : q b with
          | true => rw [List.filter_cons_of_pos hq]; simp; omega
          | false => rw [List.filter_cons_of_neg (by simp [hq])]; exact ih'
    obtain ⟨x, hx, hp, hq⟩ := h2
    rcases List.mem_cons.mp hx with rfl | hx
    · rw [List.filter_cons_of_neg (by simp [hp]), List.filter_cons_of_pos hq]
      simp
      omega
    · have ih := filter_len_lt (l := l) (fun y hy => h1 y (List.mem_cons_of_mem _ hy)) ⟨x, hx, hp, hq⟩
      cases hpa : p a with
      | true => rw [List.filter_cons_of_pos hpa, List.filter_cons_of_pos (h1 a (by simp) hpa)]; simpa using ih
      | false =>
        rw [List.filter_cons_of_neg (by simp [hpa])]
        cases hqa : q a with
        | true => rw [List.filter_cons_of_pos hqa]; simp; omega
        | false => rw [List.filter_cons_of_neg (by simp [hqa])]; exact ih
end HF

set_option Elab.async false
set_option linter.all false
set_option maxRecDepth 100000
set_option maxHeartbeats 4000000
/-! ### X: running, step by step -/
namespace HF
open PySem
section
variable {cl : Nat → List Res → O Res} {G : List PyData} {fuel : Nat} {r : Env}
theorem ev_var (i : Nat) : ev cl G (.var i) r = (match nth r i with | some (.v d) => .ok (.v d) | _ => .no) := by simp only [ev] <;> rfl
theorem ev_cst (d : PyData) : ev cl G (.cst d) r = .ok (.v d) := by simp only [ev]
theorem ev_glb (k : Nat) : ev cl G (.glb k) r = (match nthD G k with | some d => .ok (.v d) | none => .no) := by simp only [ev] <;> rfl
theorem ev_bin (op : Bop) (a b : E) : ev cl G (.bin op a b) r = (pk a (ev cl G a r) r).bind fun x => (pk b (ev cl G b r) r).bind fun y => binD op x y := by simp only [ev]
theorem ev_neg (a : E) : ev cl G (.neg a) r = (dat (ev cl G a r)).bind fun x => (toI x).bind fun i => .ok (.v (.int (-i))) := by simp only [ev]
theorem ev_cmp (op : Cop) (a b : E) : ev cl G (.cmp op a b) r = (pk a (ev cl G a r) r).bind fun x => (pk b (ev cl G b r) r).bind fun y => (cmpD op x y).bind fun c => .ok (.v (.bool c)) := by simp only [ev]
theorem ev_chn (o1 o2 : Cop) (a b c : E) : ev cl G (.chn o1 o2 a b c) r = (dat (ev cl G a r)).bind fun x => (dat (ev cl G b r)).bind fun y => (cmpD o1 x y).bind fun t => match t with
    | true => (dat (ev cl G c r)).bind fun z => (cmpD o2 y z).bind fun t => .ok (.v (.bool t))
    | false => .ok (.v (.bool false)) := by simp only [ev] <;> rfl
theorem ev_bo (isAnd : Bool) (es : Es) : ev cl G (.bo isAnd es) r = evB cl G isAnd es r := by simp only [ev]
theorem ev_nt (a : E) : ev cl G (.nt a) r = (dat (ev cl G a r)).bind fun x => (toB x).bind fun b => .ok (.v (.bool (!b))) := by simp only [ev]
theorem ev_ite (c a b : E) : ev cl G (.ite c a b) r = (dat (ev cl G c r)).bind fun x => (toB x).bind fun t => match t with
    | true => ev cl G a r
    | false => ev cl G b r := by simp only [ev] <;> rfl
theorem ev_tup (es : Es) : ev cl G (.tup es) r = (evs cl G es r).bind fun ds => .ok (.v (.tuple ds)) := by simp only [ev]
theorem ev_lst (es : Es) : ev cl G (.lst es) r = (evs cl G es r).bind fun ds => .ok (.l ds) := by simp only [ev]
theorem ev_ix (a b : E) : ev cl G (.ix a b) r = (pk a (ev cl G a r) r).bind fun x => (dat (ev cl G b r)).bind fun y => (ixD x y).bind fun d => .ok (.v d) := by simp only [ev]
theorem ev_slc (a lo hi : E) : ev cl G (.slc a lo hi) r = (pk a (ev cl G a r) r).bind fun x => (part lo (ev cl G lo r)).bind fun y => (part hi (ev cl G hi r)).bind fun z => slcD x y z := by simp only [ev]
theorem ev_call (f : Nat) (es : Es) : ev cl G (.call f es) r = (evs cl G es r).bind fun ds => cl f (ds.map .v) := by simp only [ev]
theorem ev_b1 (b : B1) {a : E} (h : isRng a = false) : ev cl G (.b1 b a) r = (pk a (ev cl G a r) r).bind fun x => b1D b x := by
  cases a <;> first | (simp only [ev]; done) | cases h
theorem ev_b1r1 (b : B1) (c : E) : ev cl G (.b1 b (.rng1 c)) r = (dat (ev cl G c r)).bind fun x => (toI x).bind fun j => (rngD 0 j).bind fun ds => rgB b ds := by simp only [ev] <;> rfl
theorem ev_b1r2 (b : B1) (c d : E) : ev cl G (.b1 b (.rng2 c d)) r = (dat (ev cl G c r)).bind fun x => (dat (ev cl G d r)).bind fun y => (toI x).bind fun i => (toI y).bind fun j => (rngD i j).bind fun ds => rgB b ds := by simp only [ev] <;> rfl
theorem ev_b2 (isMax : Bool) (a b : E) : ev cl G (.b2 isMax a b) r = (dat (ev cl G a r)).bind fun x => (dat (ev cl G b r)).bind fun y => (toI x).bind fun i => (toI y).bind fun j =>
      .ok (.v (.int (if isMax then (if j > i then j else i) else (if j < i then j else i)))) := by simp only [ev]
theorem ev_isi (t : Ty) (a : E) : ev cl G (.isi t a) r = (pk a (ev cl G a r) r).bind fun x => (isiD t x).bind fun c => .ok (.v (.bool c)) := by simp only [ev]
theorem evs_nil : evs cl G .nil r = .ok [] := by simp only [evs]
theorem evs_cons (e : E) (es : Es) : evs cl G (.cons e es) r = (dat (ev cl G e r)).bind fun d => (evs cl G es r).bind fun ds => .ok (d :: ds) := by simp only [evs]
theorem evr_nil : evr cl G .nil r = .ok [] := by simp only [evr]
theorem evr_cons (e : E) (es : Es) : evr cl G (.cons e es) r = (ev cl G e r).bind fun d => (evr cl G es r).bind fun ds => .ok (d :: ds) := by simp only [evr]
theorem evB_one (a : Bool) (e : E) : evB cl G a (.cons e .nil) r = (dat (ev cl G e r)).bind fun x => (toB x).bind fun b => .ok (.v (.bool b)) := by simp only [evB]
theorem evB_cons (a : Bool) (e e' : E) (es : Es) : evB cl G a (.cons e (.cons e' es)) r = (dat (ev cl G e r)).bind fun x => (toB x).bind fun b => if b = a then evB cl G a (.cons e' es) r else .ok (.v (.bool b)) := by rw [evB]
/-! statements -/
theorem ex_set (i : Nat) (e : E) : ex cl G fuel (.set i e) r = (ev cl G e r).bind fun x => .ok (.nx (put r i x)) := by simp only [ex]
theorem ex_sef (i : Nat) (e : E) : ex cl G fuel (.sef i e) r = (dat (ev cl G e r)).bind fun d => .ok (.nx (put r i (.v d))) := by simp only [ex]
theorem ex_unp (is : List Nat) (e : E) : ex cl G fuel (.unp is e) r = (dat (ev cl G e r)).bind fun d => (match d with
    | .tuple ds => (bindL is ds r).bind fun r' => .ok (.nx r')
    | _ => .no) := by simp only [ex] <;> rfl
theorem ex_par (is fz : List Nat) (es : Es) : ex cl G fuel (.par is fz es) r = (evr cl G es r).bind fun xs => (bindR is xs r).bind fun r' => .ok (.nx (frzL fz r')) := by simp only [ex]
theorem ex_app (i : Nat) (e : E) : ex cl G fuel (.app i e) r = (match nth r i with
    | some (.l xs) => (dat (ev cl G e r)).bind fun d => if xs.length < cap then .ok (.nx (put r i (.l (xs ++ [d])))) else .no
    | _ => .no) := by simp only [ex] <;> rfl
theorem ex_ext (i : Nat) (e : E) : ex cl G fuel (.ext i e) r = (match nth r i with
    | some (.l xs) => (dat (ev cl G e r)).bind fun d => (match d with
      | .list ys => if xs.length + ys.length ≤ cap then .ok (.nx (put r i (.l (xs ++ ys)))) else .no
      | _ => .no)
    | _ => .no) := by simp only [ex] <;> rfl
theorem ex_six (i : Nat) (a b : E) : ex cl G fuel (.six i a b) r = (match nth r i with
    | some (.l xs) => (dat (ev cl G b r)).bind fun y => (dat (ev cl G a r)).bind fun x => (toI x).bind fun k => (match ixOf xs.length k with
      | some j => .ok (.nx (put r i (.l (setNth xs j y))))
      | none => .no)
    | _ => .no) := by simp only [ex] <;> rfl
theorem ex_exp (e : E) : ex cl G fuel (.exp e) r = (ev cl G e r).bind fun _ => .ok (.nx r) := by simp only [ex]
theorem ex_ret (e : E) : ex cl G fuel (.ret e) r = (ev cl G e r).bind fun x => .ok (.rt x) := by simp only [ex]
theorem ex_retv (i : Nat) : ex cl G fuel (.retv i) r = (match nth r i with
    | some x => .ok (.rt x)
    | none => .no) := by simp only [ex] <;> rfl
theorem ex_iff (c : E) (a b : Ss) : ex cl G fuel (.iff c a b) r = (dat (ev cl G c r)).bind fun x => (toB x).bind fun t => match t with
    | true => exs cl G fuel a r
    | false => exs cl G fuel b r := by simp only [ex] <;> rfl
theorem ex_fr (tgt : List Nat) (src : E) (body : Ss) : ex cl G fuel (.fr tgt src body) r = (its cl G src r).bind fun xs => forL tgt (fun r => exs cl G fuel body r) xs r := by simp only [ex]
theorem ex_whl (c : E) (body : Ss) : ex cl G fuel (.whl c body) r = whlN (fun r => (dat (ev cl G c r)).bind toB) (fun r => exs cl G fuel body r) fuel r := by simp only [ex]
theorem ex_rse (c : Nat) : ex cl G fuel (.rse c) r = .ex c := by simp only [ex]
theorem ex_frz (is : List Nat) (s : S) : ex cl G fuel (.frz is s) r = ex cl G fuel s (frzL is r) := by simp only [ex]
theorem exs_cons (s : S) (ss : Ss) : exs cl G fuel (.cons s ss) r = (ex cl G fuel s r).bind fun fl => match fl with
    | .nx r' => exs cl G fuel ss r'
    | .rt v => .ok (.rt v) := by simp only [exs] <;> rfl
end
/-! comprehensions -/
theorem compL_ok {α : Type} {tgt : List Nat} {fc : Env → O Bool} {fe : Env → O PyData} {r : Env} {enc : α → PyData} {b : α → Env} {c : α → Bool} {e : α → PyData} : ∀ (xs : List α), (∀ x ∈ xs, bindT tgt (enc x) r = .ok (b x)) → (∀ x ∈ xs, fc (b x) = .ok (c x)) →
    (∀ x ∈ xs, c x = true → fe (b x) = .ok (e x)) → compL tgt fc fe r (xs.map enc) = .ok ((xs.filter c).map e)
  | [], _, _, _ => rfl
  | x :: xs, h1, h2, h3 => by
    have ih := compL_ok (tgt := tgt) (fc := fc) (fe := fe) (r := r) (enc := enc) (b := b) (c := c) (e := e) xs (fun y hy => h1 y (List.mem_cons_of_mem _ hy)) (fun y hy => h2 y (List.mem_cons_of_mem _ hy)) fun y hy => h3 y (List.mem_cons_of_mem _ hy)
    rw [List.map_cons]
    simp only [compL, h1 x List.mem_cons_self, O.ok_bind, h2 x List.mem_cons_self]
    cases hc : c x with
    | true =>
      simp only [h3 x List.mem_cons_self hc, O.ok_bind, ih]
      rw [List.filter_cons_of_pos hc, List.map_cons]
    | false =>
      simp only [ih]
      rw [List.filter_cons_of_neg (by simp [hc])]
theorem ev_comp {cl : Nat → List Res → O Res} {G : List PyData} {r : Env} {α : Type} {elt src cond : E} {tgt : List Nat} {enc : α → PyData} {xs : List α} (b : α → Env) (c : α → Bool) (e : α → PyData) (hs : srcV cl G src r = .ok (xs.map enc))
    (h1 : ∀ x ∈ xs, bindT tgt (enc x) (clr tgt r) = .ok (b x)) (h2 : ∀ x ∈ xs, (dat (ev cl G cond (b x))).bind toB = .ok (c x)) (h3 : ∀ x ∈ xs, c x = true → dat (ev cl G elt (b x)) = .ok (e x)) :
    ev cl G (.comp elt tgt src cond) r = .ok (.l ((xs.filter c).map e)) := by
  have q : ev cl G (.comp elt tgt src cond) r = (srcV cl G src r).bind fun xs => (O.noex (compL tgt (fun r' => (dat (ev cl G cond r')).bind toB) (fun r' => dat (ev cl G elt r')) (clr tgt r) xs)).bind fun ds => .ok (.l ds) := by
    cases src <;> (simp only [ev] <;> rfl)
  rw [q, hs, O.ok_bind, compL_ok xs h1 h2 h3]
  rfl
/-! loops -/
theorem for_ok {α : Type} {tgt : List Nat} {fb : Env → O Flow} {enc : α → PyData} (I : List α → Env → Prop) : ∀ (xs : List α) (r : Env), I xs r → (∀ x xs r, I (x :: xs) r → ∃ r1 r2, bindT tgt (enc x) r = .ok r1 ∧ fb r1 = .ok (.nx r2) ∧ I xs r2) →
    ∃ r', forL tgt fb (xs.map enc) r = .ok (.nx r') ∧ I [] r'
  | [], r, h, _ => ⟨r, rfl, h⟩
  | x :: xs, r, h, hs => by
    obtain ⟨r1, r2, e1, e2, h2⟩ := hs x xs r h
    obtain ⟨r', e3, h3⟩ := for_ok I xs r2 h2 hs
    refine ⟨r', ?_, h3⟩
    rw [List.map_cons]
    simp only [forL, e1, e2, O.ok_bind, e3]
theorem whl_ok {fc : Env → O Bool} {fb : Env → O Flow} (I : Nat → Env → Prop) (hs : ∀ m r, I m r → (fc r = .ok false) ∨ (fc r = .ok true ∧ ∃ m' r', m' < m ∧ fb r = .ok (.nx r') ∧ I m' r')) : ∀ (fuel m : Nat) (r : Env), I m r → m < fuel →
    ∃ m' r', whlN fc fb fuel r = .ok (.nx r') ∧ I m' r' ∧ fc r' = .ok false
  | 0, m, r, _, h => by omega
  | fuel + 1, m, r, hI, h => by
    rcases hs m r hI with e | ⟨e, m', r', hm, e2, hI'⟩
    · exact ⟨m, r, by simp only [whlN, e, O.ok_bind], hI, e⟩
    · obtain ⟨m2, r2, e3, hI2, e4⟩ := whl_ok I hs fuel m' r' hI' (by omega)
      exact ⟨m2, r2, by simp only [whlN, e, e2, O.ok_bind, e3], hI2, e4⟩
/-! plain data -/
mutual
def pl : Nat → PyData → Bool
  | _, .none => true
  | _, .int _ => true
  | 0, .list _ => false
  | k + 1, .list xs => plA k xs
  | 0, .tuple _ => false
  | k + 1, .tuple xs => plA k xs
  | _, .bool _ => false
  | _, .str _ => false
  | _, .dict _ => false
def plA : Nat → List PyData → Bool
  | _, [] => true
  | k, x :: xs => pl k x && plA k xs
end
mutual
theorem pl_eqv : ∀ (d e : PyData) (k : Nat), pl k d = true → pl k e = true → (PyData.eqv d e = true ↔ d = e)
  | .none, e, k, _, he => by cases e <;> simp_all [PyData.eqv, pl]
  | .int i, e, k, _, he => by cases e <;> simp_all [PyData.eqv, pl]
  | .list xs, e, 0, h, _ => by simp [pl] at h
  | .list xs, e, k + 1, h, he => by
    cases e with
    | list ys =>
      simp only [pl] at h he
      simp only [PyData.eqv, PyData.list.injEq]
      exact plA_eqv xs ys k h he
    | _ => simp_all [PyData.eqv, pl]
  | .tuple xs, e, 0, h, _ => by simp [pl] at h
  | .tuple xs, e, k + 1, h, he => by
    cases e with
    | tuple ys =>
      simp only [pl] at h he
      simp only [PyData.eqv, PyData.tuple.injEq]
      exact plA_eqv xs ys k h he
    | _ => simp_all [PyData.eqv, pl]
  | .bool _, e, k, h, _ => by simp [pl] at h
  | .str _, e, k, h, _ => by simp [pl] at h
  | .dict _, e, k, h, _ => by simp [pl] at h
theorem plA_eqv : ∀ (xs ys : List PyData) (k : Nat), plA k xs = true → plA k ys = true → (PyData.eqvAll xs ys = true ↔ xs = ys)
  | [], [], k, _, _ => by simp [PyData.eqvAll]
  | [], _ :: _, k, _, _ => by simp [PyData.eqvAll]
  | _ :: _, [], k, _, _ => by simp [PyData.eqvAll]
  | x :: xs, y :: ys, k, h, h' => by
    simp only [plA, Bool.and_eq_true] at h h'
    simp only [PyData.eqvAll, Bool.and_eq_true, List.cons.injEq]
    rw [pl_eqv x y k h.1 h'.1, plA_eqv xs ys k h.2 h'.2]
end
mutual
theorem pl_lay : ∀ (d : PyData) (k : Nat), pl k d = true → d.canLay0 = true ∧ d.depth ≤ k
  | .none, k, _ => ⟨rfl, Nat.zero_le _⟩
  | .int i, k, _ => ⟨rfl, Nat.zero_le _⟩
  | .list xs, 0, h => by simp [pl] at h
  | .list xs, k + 1, h => by
    obtain ⟨h1, h2⟩ := plA_lay xs k (by simpa [pl] using h)
    exact ⟨by simp only [PyData.canLay0, h1], by simp only [PyData.depth]; omega⟩
  | .tuple xs, 0, h => by simp [pl] at h
  | .tuple xs, k + 1, h => by
    obtain ⟨h1, h2⟩ := plA_lay xs k (by simpa [pl] using h)
    exact ⟨by simp only [PyData.canLay0, h1], by simp only [PyData.depth]; omega⟩
  | .bool _, k, h => by simp [pl] at h
  | .str _, k, h => by simp [pl] at h
  | .dict _, k, h => by simp [pl] at h
theorem plA_lay : ∀ (xs : List PyData) (k : Nat), plA k xs = true → PyData.canLayAll0 xs = true ∧ PyData.depthAll xs ≤ k
  | [], k, _ => ⟨rfl, Nat.zero_le _⟩
  | x :: xs, k, h => by
    simp only [plA, Bool.and_eq_true] at h
    obtain ⟨a1, a2⟩ := pl_lay x k h.1
    obtain ⟨b1, b2⟩ := plA_lay xs k h.2
    exact ⟨by simp only [PyData.canLayAll0, a1, b1, Bool.and_self], by simp only [PyData.depthAll]; omega⟩
end
theorem pl_shaped {d : PyData} {k : Nat} (h : pl k d = true) (hk : k ≤ 64) : SeqAt.shaped d = true := by
  obtain ⟨h1, h2⟩ := pl_lay d k h
  simp only [SeqAt.shaped, h1, Bool.true_and, decide_eq_true_eq]
  omega
theorem pl_unscr {d : PyData} {k : Nat} (h : pl k d = true) : unscr d = d := by
  cases d with
  | dict _ => simp [pl] at h
  | _ => rfl
theorem pl_mono : ∀ {d : PyData} {k m : Nat}, pl k d = true → k ≤ m → pl m d = true := by
  have key : ∀ (k m : Nat), k ≤ m → (∀ d, pl k d = true → pl m d = true) := by
    intro k
    induction k with
    | zero =>
      intro m _ d h
      cases d <;> simp_all [pl]
    | succ k ih =>
      intro m hm d h
      obtain ⟨m, rfl⟩ : ∃ j, m = j + 1 := ⟨m - 1, by omega⟩
      have all : ∀ xs, plA k xs = true → plA m xs = true := by
        intro xs
        induction xs with
        | nil => intro _; rfl
        | cons x xs ihx =>
          intro h
          simp only [plA, Bool.and_eq_true] at h ⊢
          exact ⟨ih m (by omega) x h.1, ihx h.2⟩
      cases d with
      | list xs => simp only [pl] at h ⊢; exact all xs h
      | tuple xs => simp only [pl] at h ⊢; exact all xs h
      | _ => simp_all [pl]
  intro d k m h hm
  exact key k m hm d h
theorem cmp_eq_pl {a b : PyData} {k : Nat} (ha : pl k a = true) (hb : pl k b = true) (hk : k ≤ 64) : cmpD .eq a b = .ok (PyData.eqv a b) := by
  simp only [cmpD, pl_unscr ha, pl_shaped ha hk, pl_shaped hb hk, Bool.and_self, if_true]
theorem cmp_ne_pl {a b : PyData} {k : Nat} (ha : pl k a = true) (hb : pl k b = true) (hk : k ≤ 64) : cmpD .ne a b = .ok (!PyData.eqv a b) := by
  simp only [cmpD, pl_unscr ha, pl_shaped ha hk, pl_shaped hb hk, Bool.and_self, if_true]
theorem cmp_ne_same {a : PyData} {k : Nat} (ha : pl k a = true) (hk : k ≤ 64) : cmpD .ne a a = .ok false := by
  rw [cmp_ne_pl ha ha hk, (pl_eqv a a k ha ha).mpr rfl]
  rfl
theorem cmp_eq_same {a : PyData} {k : Nat} (ha : pl k a = true) (hk : k ≤ 64) : cmpD .eq a a = .ok true := by
  rw [cmp_eq_pl ha ha hk, (pl_eqv a a k ha ha).mpr rfl]
theorem pl_ofI : ∀ (l : List Int) (k : Nat), plA k (ofI l) = true
  | [], _ => rfl
  | x :: l, k => by
    have e : ofI (x :: l) = .int x :: ofI l := rfl
    rw [e]
    simp only [plA, pl, pl_ofI l k, Bool.and_self]
theorem pl_ofP : ∀ (l : List (Int × Int)) (k : Nat), plA (k + 1) (ofP l) = true
  | [], _ => rfl
  | x :: l, k => by
    have e : ofP (x :: l) = .tuple [.int x.1, .int x.2] :: ofP l := rfl
    rw [e]
    simp only [plA, pl, pl_ofP l k, Bool.and_self]
theorem ofI_inj : ∀ {a b : List Int}, ofI a = ofI b → a = b
  | [], [], _ => rfl
  | [], _ :: _, h => by simp [ofI] at h
  | _ :: _, [], h => by simp [ofI] at h
  | x :: a, y :: b, h => by
    simp only [ofI, List.map_cons, List.cons.injEq, PyData.int.injEq] at h
    rw [h.1, ofI_inj h.2]
theorem ofP_inj : ∀ {a b : List (Int × Int)}, ofP a = ofP b → a = b
  | [], [], _ => rfl
  | [], _ :: _, h => by simp [ofP] at h
  | _ :: _, [], h => by simp [ofP] at h
  | x :: a, y :: b, h => by
    simp only [ofP, List.map_cons, List.cons.injEq, PyData.tuple.injEq, PyData.int.injEq, and_true] at h
    have e : a = b := ofP_inj h.2
    rw [e, Prod.ext h.1.1 h.1.2]
/-! membership -/
theorem anyEq_iff {k : Nat} {d : PyData} (hd : pl k d = true) : ∀ {xs : List PyData}, plA k xs = true → (anyEq d xs = true ↔ d ∈ xs)
  | [], _ => by simp [anyEq]
  | x :: xs, h => by
    simp only [plA, Bool.and_eq_true] at h
    simp only [anyEq, Bool.or_eq_true, List.mem_cons]
    rw [pl_eqv x d k h.1 hd, anyEq_iff hd h.2]
    exact ⟨fun z => z.elim (fun e => .inl e.symm) .inr, fun z => z.elim (fun e => .inl e.symm) .inr⟩
theorem mem_ofI {x : Int} {l : List Int} : PyData.int x ∈ ofI l ↔ x ∈ l := by
  simp only [ofI, List.mem_map, PyData.int.injEq]
  exact ⟨fun ⟨a, h, e⟩ => e ▸ h, fun h => ⟨x, h, rfl⟩⟩
theorem mem_ofP {x : Int × Int} {l : List (Int × Int)} : PyData.tuple [.int x.1, .int x.2] ∈ ofP l ↔ x ∈ l := by
  simp only [ofP, List.mem_map, PyData.tuple.injEq, List.cons.injEq, PyData.int.injEq, and_true]
  exact ⟨fun ⟨a, h, e⟩ => by rw [show x = a from Prod.ext e.1.symm e.2.symm]; exact h, fun h => ⟨x, h, rfl, rfl⟩⟩
theorem any_ofI (x : Int) (l : List Int) : anyEq (.int x) (ofI l) = decide (x ∈ l) := by
  have := anyEq_iff (k := 0) (d := .int x) rfl (pl_ofI l 0)
  rw [mem_ofI] at this
  cases h : anyEq (.int x) (ofI l) with
  | true => rw [this.mp h |> decide_eq_true]
  | false => exact (decide_eq_false fun z => by rw [this.mpr z] at h; cases h).symm
theorem any_ofP (a b : Int) (l : List (Int × Int)) : anyEq (.tuple [.int a, .int b]) (ofP l) = decide ((a, b) ∈ l) := by
  have := anyEq_iff (k := 1) (d := .tuple [.int a, .int b]) rfl (pl_ofP l 0)
  rw [mem_ofP (x := (a, b))] at this
  cases h : anyEq (.tuple [.int a, .int b]) (ofP l) with
  | true => rw [this.mp h |> decide_eq_true]
  | false => exact (decide_eq_false fun z => by rw [this.mpr z] at h; cases h).symm
section
variable (x y a b : Int) (l : List Int) (q : List (Int × Int))
theorem in_list : inD (.int x) (.list (ofI l)) = .ok (decide (x ∈ l)) := by
  simp only [inD, pl_shaped (d := .int x) (k := 0) rfl (by omega), pl_shaped (d := .list (ofI l)) (k := 1) (pl_ofI l 0) (by omega), Bool.and_self, if_true, any_ofI]
theorem in_tup : inD (.int x) (.tuple (ofI l)) = .ok (decide (x ∈ l)) := by
  simp only [inD, pl_shaped (d := .int x) (k := 0) rfl (by omega), pl_shaped (d := .tuple (ofI l)) (k := 1) (pl_ofI l 0) (by omega), Bool.and_self, if_true, any_ofI]
theorem in_ties : inD (.tuple [.int a, .int b]) (.tuple (ofP q)) = .ok (decide ((a, b) ∈ q)) := by
  simp only [inD, pl_shaped (d := .tuple [.int a, .int b]) (k := 1) rfl (by omega), pl_shaped (d := .tuple (ofP q)) (k := 2) (pl_ofP q 0) (by omega), Bool.and_self, if_true, any_ofP]
theorem in_tiesl : inD (.tuple [.int a, .int b]) (.list (ofP q)) = .ok (decide ((a, b) ∈ q)) := by
  simp only [inD, pl_shaped (d := .tuple [.int a, .int b]) (k := 1) rfl (by omega), pl_shaped (d := .list (ofP q)) (k := 2) (pl_ofP q 0) (by omega), Bool.and_self, if_true, any_ofP]
theorem cmp_in (d e : PyData) : cmpD .inn d e = inD d e := by cases d <;> cases e <;> rfl
theorem cmp_nin (d e : PyData) : cmpD .nin d e = (inD d e).bind fun r => .ok (!r) := by cases d <;> cases e <;> rfl
end
/-! numbers in lists -/
theorem intsD_of : ∀ l : List Int, intsD (ofI l) = some l
  | [] => rfl
  | x :: l => by
    have e : ofI (x :: l) = .int x :: ofI l := rfl
    rw [e]
    simp only [intsD, intsD_of l]
theorem prsD_of : ∀ l : List (Int × Int), prsD (ofP l) = some l
  | [] => rfl
  | x :: l => by
    have e : ofP (x :: l) = .tuple [.int x.1, .int x.2] :: ofP l := rfl
    rw [e]
    simp only [prsD, prsD_of l]
theorem rngL_rg : ∀ (n : Nat) (a : Int), rngL a n = (List.range n).map fun i => PyData.int (a + Int.ofNat i) := by
  intro n
  induction n with
  | zero => intro a; rfl
  | succ n ih =>
    intro a
    rw [List.range_succ_eq_map, List.map_cons, List.map_map]
    simp only [rngL, ih]
    congr 1
    · simp
    · refine List.map_congr_left fun i _ => ?_
      simp only [Function.comp, Int.ofNat_eq_natCast, PyData.int.injEq]
      omega
theorem rngL_zero (n : Nat) : rngL 0 n = (rg n).map .int := by
  rw [rngL_rg, rg, List.map_map]
  refine List.map_congr_left fun i _ => ?_
  simp
theorem rngD_zero (n : Nat) (h : n ≤ 1000) : rngD 0 n = .ok ((rg n).map .int) := by
  unfold rngD
  rw [if_pos (by refine ⟨by omega, by omega, by omega, by omega, ?_⟩; unfold cap; omega)]
  rw [show ((n : Int) - 0).toNat = n from by omega, rngL_zero]
end HF

set_option Elab.async false
set_option linter.all false
set_option maxRecDepth 100000
set_option maxHeartbeats 4000000
/-! ### Y: more running; webs -/
namespace HF
open PySem
theorem okb {α β : Type} (a : α) (f : α → O β) : (O.ok a).bind f = f a := Eq.trans (O.ok_bind a f) (Eq.refl (f a))
theorem exb {α β : Type} (c : Nat) (f : α → O β) : (O.ex c : O α).bind f = .ex c := Eq.trans (O.ex_bind c f) (Eq.refl _)
theorem bindL_nil (r : Env) : bindL [] [] r = .ok r := Eq.trans (b := O.ok r) rfl (Eq.refl _)
theorem bindL_cons (i : Nat) (is : List Nat) (d : PyData) (ds : List PyData) (r : Env) : bindL (i :: is) (d :: ds) r = bindL is ds (put r i (.v d)) := Eq.trans (b := bindL is ds (put r i (.v d))) rfl (Eq.refl _)
theorem bindR_nil (r : Env) : bindR [] [] r = .ok r := Eq.trans (b := O.ok r) rfl (Eq.refl _)
theorem bindR_cons (i : Nat) (is : List Nat) (d : Res) (ds : List Res) (r : Env) : bindR (i :: is) (d :: ds) r = bindR is ds (put r i d) := Eq.trans (b := bindR is ds (put r i d)) rfl (Eq.refl _)
theorem put_unput : ∀ (r : Env) (i : Nat) (x : Res), put (unput r i) i x = put r i x
  | [], _, _ => rfl
  | _ :: _, 0, _ => rfl
  | a :: r, i + 1, x => by simp only [unput, put, put_unput r i x]
theorem at_ok {xs : List PyData} {i : Nat} {d : PyData} (h : xs[i]? = some d) : atD xs (i : Int) = .ok d := by
  have hl : i < xs.length := (List.getElem?_eq_some_iff.mp h).1
  unfold atD ixOf
  rw [if_pos (by omega), if_pos (by omega)]
  simp only [Int.toNat_natCast, nthD_eq, h]
theorem ix_t0 (a : PyData) (l : List PyData) : ixD (.tuple (a :: l)) (.int 0) = .ok a := at_ok (i := 0) rfl
theorem ix_t1 (a b : PyData) (l : List PyData) : ixD (.tuple (a :: b :: l)) (.int 1) = .ok b := at_ok (i := 1) rfl
theorem ix_l0 (a : PyData) (l : List PyData) : ixD (.list (a :: l)) (.int 0) = .ok a := at_ok (i := 0) rfl
theorem rg_get {n : Nat} {i : Int} (h0 : 0 ≤ i) (h1 : i < n) : (rg n)[i.toNat]? = some i := by
  unfold rg
  rw [List.getElem?_map, List.getElem?_range (by omega)]
  simp only [Option.map_some, Int.ofNat_eq_natCast, Option.some.injEq]
  omega
theorem ix_rg {n : Nat} {f : Int → PyData} {i : Int} (h0 : 0 ≤ i) (h1 : i < n) : ixD (.list ((rg n).map f)) (.int i) = .ok (f i) := by
  have q : ((rg n).map f)[i.toNat]? = some (f i) := by rw [List.getElem?_map, rg_get h0 h1]; rfl
  have e : ((i.toNat : Nat) : Int) = i := by omega
  have := at_ok q
  rw [e] at this
  exact this
section
variable {cl : Nat → List Res → O Res} {G : List PyData} {r : Env} (b : B1)
theorem ev_b1v (i : Nat) : ev cl G (.b1 b (.var i)) r = (peek r i).bind fun x => b1D b x := ev_b1 b rfl
theorem ev_b1x (x y : E) : ev cl G (.b1 b (.ix x y)) r = (dat (ev cl G (.ix x y) r)).bind fun x => b1D b x := ev_b1 b rfl
theorem ev_b1c (elt : E) (tgt : List Nat) (s c : E) : ev cl G (.b1 b (.comp elt tgt s c)) r = (dat (ev cl G (.comp elt tgt s c) r)).bind fun x => b1D b x := ev_b1 b rfl
theorem ev_b1f (f : Nat) (es : Es) : ev cl G (.b1 b (.call f es)) r = (dat (ev cl G (.call f es) r)).bind fun x => b1D b x := ev_b1 b rfl
theorem ev_b1b (c : B1) (x : E) : ev cl G (.b1 b (.b1 c x)) r = (dat (ev cl G (.b1 c x) r)).bind fun x => b1D b x := ev_b1 b rfl
theorem ev_b1n (o : Bop) (x y : E) : ev cl G (.b1 b (.bin o x y)) r = (dat (ev cl G (.bin o x y) r)).bind fun x => b1D b x := ev_b1 b rfl
theorem ev_b1t (es : Es) : ev cl G (.b1 b (.tup es)) r = (dat (ev cl G (.tup es) r)).bind fun x => b1D b x := ev_b1 b rfl
theorem ev_b1l (es : Es) : ev cl G (.b1 b (.lst es)) r = (dat (ev cl G (.lst es) r)).bind fun x => b1D b x := ev_b1 b rfl
theorem ev_b1s (x y z : E) : ev cl G (.b1 b (.slc x y z)) r = (dat (ev cl G (.slc x y z) r)).bind fun x => b1D b x := ev_b1 b rfl
end
theorem b1_tupt (xs : List PyData) : b1D .tuple (.tuple xs) = .ok (.v (.tuple xs)) := rfl
theorem isi_tup (xs : List PyData) : isiD .tuple (.tuple xs) = .ok true := rfl
theorem isi_int (x : Int) : isiD .int (.int x) = .ok true := rfl
theorem isi_nb (x : Int) : isiD .bool (.int x) = .ok false := rfl
theorem bools_map {α : Type} (f : α → Bool) : ∀ l : List α, boolsD (l.map fun x => .bool (f x)) = some (l.map f)
  | [] => rfl
  | x :: l => by simp only [List.map_cons, boolsD, bools_map f l]
theorem b1_all {α : Type} (f : α → Bool) (l : List α) : b1D .all (.list (l.map fun x => .bool (f x))) = .ok (.v (.bool (l.all f))) := by
  simp only [b1D, bools_map]
  rw [List.all_map]
  rfl
theorem b1_any {α : Type} (f : α → Bool) (l : List α) : b1D .any (.list (l.map fun x => .bool (f x))) = .ok (.v (.bool (l.any f))) := by
  simp only [b1D, bools_map]
  rw [List.any_map]
  rfl
theorem b1_sortI (l : List Int) : b1D .sorted (.list (ofI l)) = .ok (.l (ofI (isort ltI l))) := by
  simp only [b1D, items, O.ok_bind, sortD, intsD_of]
theorem b1_sortT (l : List Int) : b1D .sorted (.tuple (ofI l)) = .ok (.l (ofI (isort ltI l))) := by
  simp only [b1D, items, O.ok_bind, sortD, intsD_of]
theorem b1_ssetI {l : List Int} (h : l.length < 60) : b1D .sset (.tuple (ofI l)) = .ok (.l (ofI (usort ltI l))) := by
  have : (ofI l).length < 60 := by simpa [ofI] using h
  simp only [b1D, items, O.ok_bind, ssetD, this, if_true, intsD_of]
theorem ints_prs : ∀ l : List (Int × Int), l ≠ [] → intsD (ofP l) = none
  | [], h => absurd rfl h
  | x :: l, _ => rfl
theorem b1_ssetP {l : List (Int × Int)} (h : l.length < 60) (hb : ∀ p ∈ l, 0 ≤ p.1 ∧ p.1 < 64 ∧ 0 ≤ p.2 ∧ p.2 < 64) : b1D .sset (.tuple (ofP l)) = .ok (.l (ofP (usort lexP l))) := by
  have h1 : (ofP l).length < 60 := by simpa [ofP] using h
  have h2 : l.all (fun p => decide (0 ≤ p.1) && decide (p.1 < 64) && decide (0 ≤ p.2) && decide (p.2 < 64)) = true := by
    rw [List.all_eq_true]
    intro p hp
    obtain ⟨a, b, c, d⟩ := hb p hp
    simp only [a, b, c, d, decide_true, Bool.and_self]
  cases l with
  | nil => rfl
  | cons x l =>
    simp only [b1D, items, O.ok_bind, ssetD, h1, if_true, ints_prs (x :: l) (by simp), prsD_of, h2]
theorem b1_sortP {l : List (Int × Int)} : b1D .sorted (.list (ofP l)) = .ok (.l (ofP (isort lexP l))) := by
  cases l with
  | nil => rfl
  | cons x l => simp only [b1D, items, O.ok_bind, sortD, ints_prs (x :: l) (by simp), prsD_of]
section
variable {cl : Nat → List Res → O Res} {G : List PyData} {r : Env} {elt s cond a : E} {i j n : Nat}
theorem comp_rg {c : Int → Bool} {e : Int → PyData} (hn : n ≤ 1000) (ha : dat (ev cl G a r) = .ok (.int n)) (h2 : ∀ x : Int, 0 ≤ x → x < n → (dat (ev cl G cond (put r i (.v (.int x))))).bind toB = .ok (c x))
    (h3 : ∀ x : Int, 0 ≤ x → x < n → c x = true → dat (ev cl G elt (put r i (.v (.int x)))) = .ok (e x)) : ev cl G (.comp elt [i] (.rng1 a) cond) r = .ok (.l ((st n c).map e)) := by
  refine ev_comp (xs := rg n) (enc := .int) (fun x => put r i (.v (.int x))) c e ?_ (fun x _ => ?_) (fun x hx => h2 x (mem_rg.mp hx).1 (mem_rg.mp hx).2) fun x hx => h3 x (mem_rg.mp hx).1 (mem_rg.mp hx).2
  · have e : srcV cl G (.rng1 a) r = (dat (ev cl G a r)).bind fun x => (toI x).bind fun j => rngD 0 j := rfl
    rw [e, ha, O.ok_bind, toI_int, O.ok_bind, rngD_zero n hn]
  · show O.ok (put (unput r i) i (.v (.int x))) = _
    rw [put_unput]
theorem filt_true {α : Type} (l : List α) : l.filter (fun _ => true) = l := List.filter_eq_self.mpr fun _ _ => rfl
theorem comp_rgT {e : Int → PyData} (hn : n ≤ 1000) (ha : dat (ev cl G a r) = .ok (.int n)) (h3 : ∀ x : Int, 0 ≤ x → x < n → dat (ev cl G elt (put r i (.v (.int x)))) = .ok (e x)) :
    ev cl G (.comp elt [i] (.rng1 a) (.cst (.bool true))) r = .ok (.l ((rg n).map e)) := by
  rw [comp_rg (c := fun _ => true) (e := e) hn ha (fun x _ _ => by simp only [ev_cst, dat_v, O.ok_bind, toB_bool]) fun x h0 h1 _ => h3 x h0 h1]
  unfold st
  rw [filt_true]
theorem comp_l {l : List Int} {c : Int → Bool} {e : Int → PyData} (hs : srcV cl G s r = .ok (ofI l)) (h2 : ∀ x ∈ l, (dat (ev cl G cond (put r i (.v (.int x))))).bind toB = .ok (c x))
    (h3 : ∀ x ∈ l, c x = true → dat (ev cl G elt (put r i (.v (.int x)))) = .ok (e x)) : ev cl G (.comp elt [i] s cond) r = .ok (.l ((l.filter c).map e)) := by
  refine ev_comp (xs := l) (enc := .int) (fun x => put r i (.v (.int x))) c e hs (fun x _ => ?_) h2 h3
  show O.ok (put (unput r i) i (.v (.int x))) = _
  rw [put_unput]
theorem comp_lT {l : List Int} {e : Int → PyData} (hs : srcV cl G s r = .ok (ofI l)) (h3 : ∀ x ∈ l, dat (ev cl G elt (put r i (.v (.int x)))) = .ok (e x)) :
    ev cl G (.comp elt [i] s (.cst (.bool true))) r = .ok (.l (l.map e)) := by
  rw [comp_l (c := fun _ => true) (e := e) hs (fun x _ => by simp only [ev_cst, dat_v, O.ok_bind, toB_bool]) fun x hx _ => h3 x hx, filt_true]
/-- any items -/
theorem comp_d {l : List PyData} {c : PyData → Bool} {e : PyData → PyData} (hs : srcV cl G s r = .ok l) (h2 : ∀ x ∈ l, (dat (ev cl G cond (put r i (.v x)))).bind toB = .ok (c x))
    (h3 : ∀ x ∈ l, c x = true → dat (ev cl G elt (put r i (.v x))) = .ok (e x)) : ev cl G (.comp elt [i] s cond) r = .ok (.l ((l.filter c).map e)) := by
  refine ev_comp (xs := l) (enc := id) (fun x => put r i (.v x)) c e (by rw [List.map_id]; exact hs) (fun x _ => ?_) h2 h3
  show O.ok (put (unput r i) i (.v x)) = _
  rw [put_unput]
theorem comp_dT {l : List PyData} {e : PyData → PyData} (hs : srcV cl G s r = .ok l) (h3 : ∀ x ∈ l, dat (ev cl G elt (put r i (.v x))) = .ok (e x)) :
    ev cl G (.comp elt [i] s (.cst (.bool true))) r = .ok (.l (l.map e)) := by
  rw [comp_d (c := fun _ => true) (e := e) hs (fun x _ => by simp only [ev_cst, dat_v, O.ok_bind, toB_bool]) fun x hx _ => h3 x hx, filt_true]
/-- ties, laid out -/
theorem comp_p {l : List (Int × Int)} {c : Int × Int → Bool} {e : Int × Int → PyData} (hs : srcV cl G s r = .ok (ofP l))
    (h2 : ∀ x ∈ l, (dat (ev cl G cond (put (put (clr [i, j] r) i (.v (.int x.1))) j (.v (.int x.2))))).bind toB = .ok (c x))
    (h3 : ∀ x ∈ l, c x = true → dat (ev cl G elt (put (put (clr [i, j] r) i (.v (.int x.1))) j (.v (.int x.2)))) = .ok (e x)) : ev cl G (.comp elt [i, j] s cond) r = .ok (.l ((l.filter c).map e)) :=
  ev_comp (xs := l) (enc := fun p : Int × Int => .tuple [.int p.1, .int p.2]) (fun x => put (put (clr [i, j] r) i (.v (.int x.1))) j (.v (.int x.2))) c e hs (fun x _ => rfl) h2 h3
end
/-! loops within what comes behind -/
theorem O.bind_assoc {α β γ : Type} (o : O α) (f : α → O β) (g : β → O γ) : (o.bind f).bind g = o.bind fun a => (f a).bind g := by cases o <;> rfl
theorem fr_bind {α β : Type} {cl : Nat → List Res → O Res} {G : List PyData} {fuel : Nat} {tgt : List Nat} {src : E} {body : Ss} {r : Env} {enc : α → PyData} {xs : List α} {k : Flow → O β} {F : O β} (I : List α → Env → Prop)
    (hi : its cl G src r = .ok (xs.map enc)) (h0 : I xs r) (hs : ∀ x xs r, I (x :: xs) r → ∃ r1 r2, bindT tgt (enc x) r = .ok r1 ∧ exs cl G fuel body r1 = .ok (.nx r2) ∧ I xs r2) (hk : ∀ r', I [] r' → k (.nx r') = F) :
    (ex cl G fuel (.fr tgt src body) r).bind k = F := by
  obtain ⟨r', e, h⟩ := for_ok (tgt := tgt) (fb := fun r => exs cl G fuel body r) (enc := enc) I xs r h0 hs
  rw [ex_fr, hi, O.ok_bind, e]
  exact hk r' h
theorem whl_bind {β : Type} {cl : Nat → List Res → O Res} {G : List PyData} {c : E} {body : Ss} {r : Env} {k : Flow → O β} {F : O β} (I : Nat → Env → Prop) (m : Nat) (hm : m < 1000) (h0 : I m r)
    (hs : ∀ m r, I m r → ((dat (ev cl G c r)).bind toB = .ok false) ∨ ((dat (ev cl G c r)).bind toB = .ok true ∧ ∃ m' r', m' < m ∧ exs cl G 1000 body r = .ok (.nx r') ∧ I m' r')) (hk : ∀ m r', I m r' → (dat (ev cl G c r')).bind toB = .ok false → k (.nx r') = F) :
    (ex cl G 1000 (.whl c body) r).bind k = F := by
  obtain ⟨m', r', e, h, h'⟩ := whl_ok (fc := fun r => (dat (ev cl G c r)).bind toB) (fb := fun r => exs cl G 1000 body r) I hs 1000 m r h0 hm
  rw [ex_whl, e]
  exact hk m' r' h h'
/-! webs -/
structure WF (n : Nat) (es : List (Int × Int)) : Prop where
  lo : 1 ≤ n
  hi : n ≤ 7
  tie : ∀ e ∈ es, 0 ≤ e.1 ∧ e.1 < e.2 ∧ e.2 < n
  srt : es.Pairwise fun a b => lexP a b = true
def wb (n : Nat) (es : List (Int × Int)) : PyData := .tuple [.int n, .tuple (ofP es)]
def adj (es : List (Int × Int)) (p q : Int) : Bool := decide ((p, q) ∈ es) || decide ((q, p) ∈ es)
theorem adj_symm (es : List (Int × Int)) (p q : Int) : adj es p q = adj es q p := by unfold adj; exact Bool.or_comm _ _
theorem WF.len {n : Nat} {es : List (Int × Int)} (w : WF n es) : es.length ≤ 49 := by
  have hs : (es.map fun e => 7 * e.1 + e.2).Pairwise (· < ·) := by
    rw [List.pairwise_map]
    refine w.srt.imp_of_mem fun {a b} ha hb h => ?_
    have h1 := w.tie a ha
    have h2 := w.tie b hb
    have h3 := w.hi
    unfold lexP at h
    split at h <;> (have := of_decide_eq_true h; omega)
  have hb : ∀ x : Int, x ∈ (es.map fun e => 7 * e.1 + e.2) → 0 ≤ x ∧ x < (49 : Nat) := by
    intro x hx
    obtain ⟨e, he, rfl⟩ := List.mem_map.mp hx
    have h1 := w.tie e he
    have h3 := w.hi
    omega
  have q := st_of hs hb
  have := st_len 49 fun x => decide (x ∈ es.map fun e => 7 * e.1 + e.2)
  rw [← q, List.length_map] at this
  exact this
theorem lexP_irr (a : Int × Int) : lexP a a = false := by simp [lexP]
theorem lexP_asym {a b : Int × Int} (h : lexP a b = true) : lexP b a = false := by
  unfold lexP at *
  by_cases e : a.1 = b.1
  · rw [if_pos e] at h
    rw [if_pos e.symm]
    have := of_decide_eq_true h
    exact decide_eq_false (by omega)
  · rw [if_neg e] at h
    rw [if_neg fun z => e z.symm]
    have := of_decide_eq_true h
    exact decide_eq_false (by omega)
theorem uinsP_lt {x : Int × Int} : ∀ {l : List (Int × Int)}, (∀ y ∈ l, lexP x y = true) → uins lexP x l = x :: l
  | [], _ => rfl
  | y :: r, hx => by
    have hy := hx y List.mem_cons_self
    simp only [uins, lexP_asym hy, hy, if_true, Bool.false_eq_true, if_false]
theorem usortP_id {l : List (Int × Int)} (h : l.Pairwise fun a b => lexP a b = true) : usort lexP l = l := by
  induction l with
  | nil => rfl
  | cons x l ih =>
    rw [List.pairwise_cons] at h
    simp only [usort]
    rw [ih h.2, uinsP_lt h.1]
/-- the defs that look -/
structure Looks (T : List Fn) (G : List PyData) : Prop where
  g0 : nthD G 0 = some (.int 7)
  f0 : nthF T 0 = some u_is_whole
  f1 : nthF T 1 = some u_is_tie
  f2 : nthF T 2 = some u_is_web
  f3 : nthF T 3 = some u_look_web
  f4 : nthF T 4 = some u_beside
section
variable {T : List Fn} {G : List PyData} {n : Nat} {es : List (Int × Int)}
theorem is_whole_ok (t : Looks T G) (m : Nat) (x lo hi : Int) : cal T G (m + 1) 0 [.v (.int x), .v (.int lo), .v (.int hi)] = .ok (.v (.bool (decide (lo ≤ x) && decide (x ≤ hi)))) := by
  rw [cal_eq t.f0 rfl]
  show (exs (cal T G m) G 1000 u_is_whole.body [some (.v (.int x)), some (.v (.int lo)), some (.v (.int hi))]).bind _ = _
  unfold u_is_whole
  dsimp only
  by_cases h : lo ≤ x
  · simp only [exs_cons, exs_nil, ex_set, ex_sef, ex_unp, ex_par, ex_app, ex_ext, ex_six, ex_exp, ex_ret, ex_retv, ex_iff, ex_rse, ex_frz, ev_var, ev_cst, ev_glb, ev_bin, ev_neg, ev_cmp, ev_chn, ev_bo, ev_nt, ev_ite, ev_tup, ev_lst, ev_ix, ev_slc, ev_call, ev_b2, ev_isi, evs_nil, evs_cons, evr_nil, evr_cons, evB_one, evB_cons, pk, peek, nth, put, bindL_nil, bindL_cons, bindR_nil, bindR_cons, frzL, dat_v, dat_l, Res.dat_v, Res.dat_l, okb, exb, List.map_cons, List.map_nil, toI_int, toB_bool, bin_add, bin_sub, cmp_lt, cmp_le, cmp_gt, cmp_ge, cmp_eqi, cmp_nei, cmp_in, cmp_nin, b1_int, b1_lenl, b1_lent, b1_tupl, b1_tupt, b1_lstt, b1_lstl, ix_t0, ix_t1, isi_tup, isi_int, isi_nb, ev_b1v, ev_b1x, ev_b1c, ev_b1f, ev_b1b, ev_b1n, ev_b1t, ev_b1l, ev_b1s, if_true, if_false, Bool.false_eq_true, Bool.not_true, Bool.not_false, Bool.true_eq_false, h, decide_true, Bool.true_and]
  · simp only [exs_cons, exs_nil, ex_set, ex_sef, ex_unp, ex_par, ex_app, ex_ext, ex_six, ex_exp, ex_ret, ex_retv, ex_iff, ex_rse, ex_frz, ev_var, ev_cst, ev_glb, ev_bin, ev_neg, ev_cmp, ev_chn, ev_bo, ev_nt, ev_ite, ev_tup, ev_lst, ev_ix, ev_slc, ev_call, ev_b2, ev_isi, evs_nil, evs_cons, evr_nil, evr_cons, evB_one, evB_cons, pk, peek, nth, put, bindL_nil, bindL_cons, bindR_nil, bindR_cons, frzL, dat_v, dat_l, Res.dat_v, Res.dat_l, okb, exb, List.map_cons, List.map_nil, toI_int, toB_bool, bin_add, bin_sub, cmp_lt, cmp_le, cmp_gt, cmp_ge, cmp_eqi, cmp_nei, cmp_in, cmp_nin, b1_int, b1_lenl, b1_lent, b1_tupl, b1_tupt, b1_lstt, b1_lstl, ix_t0, ix_t1, isi_tup, isi_int, isi_nb, ev_b1v, ev_b1x, ev_b1c, ev_b1f, ev_b1b, ev_b1n, ev_b1t, ev_b1l, ev_b1s, if_true, if_false, Bool.false_eq_true, Bool.not_true, Bool.not_false, Bool.true_eq_false, h, decide_false, Bool.false_and]
theorem whole_in (t : Looks T G) (m : Nat) {x hi : Int} (h0 : 0 ≤ x) (h1 : x ≤ hi) : cal T G (m + 1) 0 [.v (.int x), .v (.int 0), .v (.int hi)] = .ok (.v (.bool true)) := by
  rw [is_whole_ok t]
  simp only [h0, h1, decide_true, Bool.and_self]
theorem is_tie_ok (t : Looks T G) (m : Nat) {a b : Int} (h0 : 0 ≤ a) (h1 : a < b) (h2 : b < n) : cal T G (m + 2) 1 [.v (.tuple [.int a, .int b]), .v (.int n)] = .ok (.v (.bool true)) := by
  rw [cal_eq t.f1 rfl]
  show (exs (cal T G (m + 1)) G 1000 u_is_tie.body [some (.v (.tuple [.int a, .int b])), some (.v (.int n)), none]).bind _ = _
  unfold u_is_tie
  dsimp only
  have hlt : decide (a < b) = true := decide_eq_true h1
  have e2 : (((0 : Nat) + 1 + 1 : Nat) : Int) == 2 := rfl
  simp only [exs_cons, exs_nil, ex_set, ex_sef, ex_unp, ex_par, ex_app, ex_ext, ex_six, ex_exp, ex_ret, ex_retv, ex_iff, ex_rse, ex_frz, ev_var, ev_cst, ev_glb, ev_bin, ev_neg, ev_cmp, ev_chn, ev_bo, ev_nt, ev_ite, ev_tup, ev_lst, ev_ix, ev_slc, ev_call, ev_b2, ev_isi, evs_nil, evs_cons, evr_nil, evr_cons, evB_one, evB_cons, pk, peek, nth, put, bindL_nil, bindL_cons, bindR_nil, bindR_cons, frzL, dat_v, dat_l, Res.dat_v, Res.dat_l, okb, exb, List.map_cons, List.map_nil, toI_int, toB_bool, bin_add, bin_sub, cmp_lt, cmp_le, cmp_gt, cmp_ge, cmp_eqi, cmp_nei, cmp_in, cmp_nin, b1_int, b1_lenl, b1_lent, b1_tupl, b1_tupt, b1_lstt, b1_lstl, ix_t0, ix_t1, isi_tup, isi_int, isi_nb, ev_b1v, ev_b1x, ev_b1c, ev_b1f, ev_b1b, ev_b1n, ev_b1t, ev_b1l, ev_b1s, if_true, if_false, Bool.false_eq_true, Bool.not_true, Bool.not_false, Bool.true_eq_false, List.length_cons, List.length_nil, e2]
  rw [comp_lT (l := [a, b]) (e := fun _ => .bool true) (by rfl) (fun x hx => ?_)]
  · have e0 := b1_all (fun _ : Int => true) [a, b]
    simp only [List.map_cons, List.map_nil, List.all_cons, List.all_nil, Bool.and_self] at e0
    simp only [exs_cons, exs_nil, ex_set, ex_sef, ex_unp, ex_par, ex_app, ex_ext, ex_six, ex_exp, ex_ret, ex_retv, ex_iff, ex_rse, ex_frz, ev_var, ev_cst, ev_glb, ev_bin, ev_neg, ev_cmp, ev_chn, ev_bo, ev_nt, ev_ite, ev_tup, ev_lst, ev_ix, ev_slc, ev_call, ev_b2, ev_isi, evs_nil, evs_cons, evr_nil, evr_cons, evB_one, evB_cons, pk, peek, nth, put, bindL_nil, bindL_cons, bindR_nil, bindR_cons, frzL, dat_v, dat_l, Res.dat_v, Res.dat_l, okb, exb, List.map_cons, List.map_nil, toI_int, toB_bool, bin_add, bin_sub, cmp_lt, cmp_le, cmp_gt, cmp_ge, cmp_eqi, cmp_nei, cmp_in, cmp_nin, b1_int, b1_lenl, b1_lent, b1_tupl, b1_tupt, b1_lstt, b1_lstl, ix_t0, ix_t1, isi_tup, isi_int, isi_nb, ev_b1v, ev_b1x, ev_b1c, ev_b1f, ev_b1b, ev_b1n, ev_b1t, ev_b1l, ev_b1s, if_true, if_false, Bool.false_eq_true, Bool.not_true, Bool.not_false, Bool.true_eq_false, e0, hlt]
  · have hx' : 0 ≤ x ∧ x ≤ (n : Int) - 1 := by
      simp only [List.mem_cons, List.not_mem_nil, or_false] at hx
      omega
    simp only [exs_cons, exs_nil, ex_set, ex_sef, ex_unp, ex_par, ex_app, ex_ext, ex_six, ex_exp, ex_ret, ex_retv, ex_iff, ex_rse, ex_frz, ev_var, ev_cst, ev_glb, ev_bin, ev_neg, ev_cmp, ev_chn, ev_bo, ev_nt, ev_ite, ev_tup, ev_lst, ev_ix, ev_slc, ev_call, ev_b2, ev_isi, evs_nil, evs_cons, evr_nil, evr_cons, evB_one, evB_cons, pk, peek, nth, put, bindL_nil, bindL_cons, bindR_nil, bindR_cons, frzL, dat_v, dat_l, Res.dat_v, Res.dat_l, okb, exb, List.map_cons, List.map_nil, toI_int, toB_bool, bin_add, bin_sub, cmp_lt, cmp_le, cmp_gt, cmp_ge, cmp_eqi, cmp_nei, cmp_in, cmp_nin, b1_int, b1_lenl, b1_lent, b1_tupl, b1_tupt, b1_lstt, b1_lstl, ix_t0, ix_t1, isi_tup, isi_int, isi_nb, ev_b1v, ev_b1x, ev_b1c, ev_b1f, ev_b1b, ev_b1n, ev_b1t, ev_b1l, ev_b1s, if_true, if_false, Bool.false_eq_true, Bool.not_true, Bool.not_false, Bool.true_eq_false, whole_in t m hx'.1 hx'.2]
end
end HF

set_option Elab.async false
set_option linter.all false
set_option maxRecDepth 100000
set_option maxHeartbeats 4000000
/-! ### Z: how fire spreads, in plain words -/
namespace HF
/-- a burning place lies beside q -/
def nb (n : Nat) (es : List (Int × Int)) (B : Int → Bool) (q : Int) : Bool := (rg n).any fun p => adj es q p && B p
def nx (n : Nat) (es : List (Int × Int)) (S B : Int → Bool) (q : Int) : Bool := B q || (!S q && nb n es B q)
/-- what burns behind k turns -/
def bt (n : Nat) (es : List (Int × Int)) (S B : Int → Bool) : Nat → Int → Bool
  | 0 => B
  | k + 1 => nx n es S (bt n es S B k)
abbrev In (n : Nat) (p : Int) : Prop := 0 ≤ p ∧ p < n
section
variable {n : Nat} {es es' : List (Int × Int)} {S S' B B' C : Int → Bool}
theorem nb_iff {q : Int} : nb n es B q = true ↔ ∃ p, In n p ∧ adj es q p = true ∧ B p = true := by
  unfold nb
  rw [List.any_eq_true]
  constructor
  · rintro ⟨p, hp, h⟩
    rw [Bool.and_eq_true] at h
    exact ⟨p, mem_rg.mp hp, h.1, h.2⟩
  · rintro ⟨p, hp, h1, h2⟩
    exact ⟨p, mem_rg.mpr hp, by rw [h1, h2]; rfl⟩
theorem nx_iff {q : Int} : nx n es S B q = true ↔ B q = true ∨ (S q = false ∧ nb n es B q = true) := by
  unfold nx
  rw [Bool.or_eq_true, Bool.and_eq_true, Bool.not_eq_true']
theorem nx_le {q : Int} (hB : ∀ p, In n p → B p = true → B' p = true) (hS : ∀ p, In n p → S' p = true → S p = true) (he : ∀ p q, adj es p q = true → adj es' p q = true) (hq : In n q) (h : nx n es S B q = true) : nx n es' S' B' q = true := by
  rw [nx_iff] at h ⊢
  rcases h with h | ⟨h1, h2⟩
  · exact .inl (hB q hq h)
  · refine .inr ⟨?_, ?_⟩
    · cases h' : S' q with
      | false => rfl
      | true => rw [hS q hq h'] at h1; cases h1
    · rw [nb_iff] at h2 ⊢
      obtain ⟨p, hp, ha, hb⟩ := h2
      exact ⟨p, hp, he _ _ ha, hB p hp hb⟩
theorem bt_le (hB : ∀ p, In n p → B p = true → B' p = true) (hS : ∀ p, In n p → S' p = true → S p = true) (he : ∀ p q, adj es p q = true → adj es' p q = true) : ∀ (k : Nat) (q : Int), In n q → bt n es S B k q = true → bt n es' S' B' k q = true
  | 0, q, hq, h => hB q hq h
  | k + 1, q, hq, h => nx_le (bt_le hB hS he k) hS he hq h
theorem bool_ext {a b : Bool} (h1 : a = true → b = true) (h2 : b = true → a = true) : a = b := by
  cases a <;> cases b <;> simp_all
theorem bt_cg (hB : ∀ p, In n p → B p = B' p) (hS : ∀ p, In n p → S p = S' p) (k : Nat) (q : Int) (hq : In n q) : bt n es S B k q = bt n es S' B' k q :=
  bool_ext (bt_le (fun p hp h => by rw [← hB p hp]; exact h) (fun p hp h => by rw [hS p hp]; exact h) (fun _ _ h => h) k q hq) (bt_le (fun p hp h => by rw [hB p hp]; exact h) (fun p hp h => by rw [← hS p hp]; exact h) (fun _ _ h => h) k q hq)
theorem bt_up {k : Nat} {q : Int} (h : bt n es S B k q = true) : bt n es S B (k + 1) q = true := nx_iff.mpr (.inl h)
theorem bt_ups {k : Nat} {q : Int} (h : bt n es S B k q = true) : ∀ j, bt n es S B (k + j) q = true
  | 0 => h
  | j + 1 => bt_up (bt_ups h j)
theorem bt_mono {k j : Nat} {q : Int} (hkj : k ≤ j) (h : bt n es S B k q = true) : bt n es S B j q = true := by
  have := bt_ups h (j - k)
  rw [show k + (j - k) = j from by omega] at this
  exact this
theorem bt_shift (j : Nat) : ∀ k : Nat, bt n es S (bt n es S B j) k = bt n es S B (j + k)
  | 0 => rfl
  | k + 1 => by
    show nx n es S (bt n es S (bt n es S B j) k) = nx n es S (bt n es S B (j + k))
    rw [bt_shift j k]
/-- two fires -/
theorem nx_or (q : Int) : nx n es S (fun p => B p || C p) q = (nx n es S B q || nx n es S C q) := by
  refine bool_ext (fun h => ?_) fun h => ?_
  · rw [nx_iff] at h
    rw [Bool.or_eq_true, nx_iff, nx_iff]
    rcases h with h | ⟨h1, h2⟩
    · rw [Bool.or_eq_true] at h
      rcases h with h | h
      · exact .inl (.inl h)
      · exact .inr (.inl h)
    · rw [nb_iff] at h2
      obtain ⟨p, hp, ha, hb⟩ := h2
      rw [Bool.or_eq_true] at hb
      rcases hb with hb | hb
      · exact .inl (.inr ⟨h1, nb_iff.mpr ⟨p, hp, ha, hb⟩⟩)
      · exact .inr (.inr ⟨h1, nb_iff.mpr ⟨p, hp, ha, hb⟩⟩)
  · rw [Bool.or_eq_true, nx_iff, nx_iff] at h
    rw [nx_iff, Bool.or_eq_true]
    rcases h with (h | ⟨h1, h2⟩) | (h | ⟨h1, h2⟩)
    · exact .inl (.inl h)
    · obtain ⟨p, hp, ha, hb⟩ := nb_iff.mp h2
      exact .inr ⟨h1, nb_iff.mpr ⟨p, hp, ha, by rw [hb]; rfl⟩⟩
    · exact .inl (.inr h)
    · obtain ⟨p, hp, ha, hb⟩ := nb_iff.mp h2
      exact .inr ⟨h1, nb_iff.mpr ⟨p, hp, ha, by rw [hb, Bool.or_true]⟩⟩
theorem bt_or : ∀ (k : Nat) (q : Int), bt n es S (fun p => B p || C p) k q = (bt n es S B k q || bt n es S C k q)
  | 0, q => rfl
  | k + 1, q => by
    show nx n es S (bt n es S (fun p => B p || C p) k) q = _
    rw [show bt n es S (fun p => B p || C p) k = fun p => bt n es S B k p || bt n es S C k p from funext (bt_or k), nx_or]
    rfl
/-- many fires, one by one -/
theorem bt_one : ∀ (k : Nat) (q : Int), In n q → (bt n es S B k q = true ↔ ∃ b, In n b ∧ B b = true ∧ bt n es S (fun p => decide (p = b)) k q = true)
  | 0, q, hq => by
    show B q = true ↔ ∃ b, In n b ∧ B b = true ∧ decide (q = b) = true
    constructor
    · intro h
      exact ⟨q, hq, h, decide_eq_true rfl⟩
    · rintro ⟨b, _, h, e⟩
      rw [of_decide_eq_true e]
      exact h
  | k + 1, q, hq => by
    show nx n es S (bt n es S B k) q = true ↔ ∃ b, In n b ∧ B b = true ∧ nx n es S (bt n es S (fun p => decide (p = b)) k) q = true
    rw [nx_iff]
    constructor
    · rintro (h | ⟨h1, h2⟩)
      · obtain ⟨b, hb, h3, h4⟩ := (bt_one k q hq).mp h
        exact ⟨b, hb, h3, nx_iff.mpr (.inl h4)⟩
      · obtain ⟨p, hp, ha, hb⟩ := nb_iff.mp h2
        obtain ⟨b, hb1, h3, h4⟩ := (bt_one k p hp).mp hb
        exact ⟨b, hb1, h3, nx_iff.mpr (.inr ⟨h1, nb_iff.mpr ⟨p, hp, ha, h4⟩⟩)⟩
    · rintro ⟨b, hb, h3, h4⟩
      rcases nx_iff.mp h4 with h | ⟨h1, h2⟩
      · exact .inl ((bt_one k q hq).mpr ⟨b, hb, h3, h⟩)
      · obtain ⟨p, hp, ha, hb'⟩ := nb_iff.mp h2
        exact .inr ⟨h1, nb_iff.mpr ⟨p, hp, ha, (bt_one k p hp).mpr ⟨b, hb, h3, hb'⟩⟩⟩
/-- what is saved never burns -/
theorem bt_saved (hd : ∀ p, In n p → S p = true → B p = false) : ∀ (k : Nat) (q : Int), In n q → S q = true → bt n es S B k q = false
  | 0, q, hq, h => hd q hq h
  | k + 1, q, hq, h => by
    show nx n es S (bt n es S B k) q = false
    unfold nx
    rw [bt_saved hd k q hq h, h]
    rfl
/-- it ends -/
def Still (n : Nat) (es : List (Int × Int)) (S B : Int → Bool) : Prop := ∀ p, In n p → nx n es S B p = B p
theorem still_all (h : Still n es S B) : ∀ (k : Nat) (p : Int), In n p → bt n es S B k p = B p
  | 0, _, _ => rfl
  | k + 1, p, hp => by
    show nx n es S (bt n es S B k) p = B p
    have : nx n es S (bt n es S B k) p = nx n es S B p := bool_ext (nx_le (fun q hq h' => by rw [← still_all h k q hq]; exact h') (fun _ _ h => h) (fun _ _ h => h) hp) (nx_le (fun q hq h' => by rw [still_all h k q hq]; exact h') (fun _ _ h => h) (fun _ _ h => h) hp)
    rw [this, h p hp]
def un (n : Nat) (B : Int → Bool) : Nat := (st n fun p => !B p).length
theorem un_le : un n B ≤ n := st_len n _
theorem un_lt (h : ¬ Still n es S B) : un n (nx n es S B) < un n B := by
  have ⟨p, hp, hne⟩ : ∃ p, In n p ∧ nx n es S B p ≠ B p := Classical.byContradiction fun q => h fun p hp => Classical.byContradiction fun z => q ⟨p, hp, z⟩
  refine filter_len_lt (fun q hq h' => ?_) ⟨p, mem_rg.mpr hp, ?_⟩
  · rw [Bool.not_eq_true'] at h' ⊢
    cases hB : B q with
    | false => rfl
    | true => rw [nx_iff.mpr (.inl hB)] at h'; cases h'
  · cases hB : B p with
    | true => rw [nx_iff.mpr (.inl hB), hB] at hne; exact absurd rfl hne
    | false =>
      cases hN : nx n es S B p with
      | false => rw [hN, hB] at hne; exact absurd rfl hne
      | true => exact ⟨rfl, rfl⟩
theorem still_or : ∀ m : Nat, (∃ k, k < m ∧ Still n es S (bt n es S B k)) ∨ un n (bt n es S B m) + m ≤ n
  | 0 => .inr un_le
  | m + 1 => by
    rcases still_or m with ⟨k, hk, h⟩ | h
    · exact .inl ⟨k, by omega, h⟩
    · by_cases hs : Still n es S (bt n es S B m)
      · exact .inl ⟨m, by omega, hs⟩
      · have := un_lt hs
        right
        show un n (nx n es S (bt n es S B m)) + (m + 1) ≤ n
        omega
theorem still_by : ∃ k, k ≤ n ∧ Still n es S (bt n es S B k) := by
  rcases still_or (n := n) (es := es) (S := S) (B := B) (n + 1) with ⟨k, hk, h⟩ | h
  · exact ⟨k, by omega, h⟩
  · omega
theorem still_later {k j : Nat} (h : Still n es S (bt n es S B k)) (hkj : k ≤ j) (p : Int) (hp : In n p) : bt n es S B j p = bt n es S B k p := by
  have := still_all h (j - k) p hp
  rw [bt_shift, show k + (j - k) = j from by omega] at this
  exact this
/-- behind as many turns as there are places nothing changes -/
theorem bt_end {m : Nat} (hm : n ≤ m) {k : Nat} {p : Int} (hp : In n p) (h : bt n es S B k p = true) : bt n es S B m p = true := by
  obtain ⟨j, hj, hs⟩ := still_by (n := n) (es := es) (S := S) (B := B)
  by_cases hkj : k ≤ m
  · exact bt_mono hkj h
  · rw [still_later hs (by omega) p hp] at h
    exact bt_mono (by omega) h
theorem still_end {m : Nat} (hm : n ≤ m) : Still n es S (bt n es S B m) := by
  intro p hp
  refine bool_ext (fun h => bt_end hm hp (k := m + 1) h) fun h => bt_up h
/-! the turn in which a place burns -/
def ft (n : Nat) (es : List (Int × Int)) (S B : Int → Bool) (p : Int) : Option Nat := (List.range 8).find? fun k => bt n es S B k p
theorem ft_some {p : Int} {k : Nat} : ft n es S B p = some k ↔ k < 8 ∧ bt n es S B k p = true ∧ ∀ j, j < k → bt n es S B j p = false := by
  unfold ft
  rw [List.find?_range_eq_some]
  constructor
  · rintro ⟨h1, h2, h3⟩
    exact ⟨List.mem_range.mp h2, h1, fun j hj => by have := h3 j hj; simpa using this⟩
  · rintro ⟨h1, h2, h3⟩
    exact ⟨h2, List.mem_range.mpr h1, fun j hj => by rw [h3 j hj]; rfl⟩
theorem ft_none {p : Int} : ft n es S B p = none ↔ ∀ k, k < 8 → bt n es S B k p = false := by
  unfold ft
  rw [List.find?_range_eq_none]
  constructor
  · intro h k hk
    have := h k hk
    simpa using this
  · intro h k hk
    rw [h k hk]
    rfl
theorem ft_none' (hn : n ≤ 7) {p : Int} (hp : In n p) : ft n es S B p = none ↔ ∀ k, bt n es S B k p = false := by
  rw [ft_none]
  refine ⟨fun h k => ?_, fun h k _ => h k⟩
  cases hk : bt n es S B k p with
  | false => rfl
  | true =>
    have := bt_end hn hp hk
    rw [h 7 (by omega)] at this
    cases this
theorem ft_ex {k : Nat} {p : Int} (hk : k < 8) (h : bt n es S B k p = true) : ∃ j, j ≤ k ∧ ft n es S B p = some j := by
  cases q : ft n es S B p with
  | none => rw [ft_none.mp q k hk] at h; cases h
  | some j =>
    refine ⟨j, ?_, rfl⟩
    obtain ⟨h1, h2, h3⟩ := ft_some.mp q
    refine Classical.byContradiction fun hn => ?_
    rw [h3 k (by omega)] at h
    cases h
def late (o : Option Nat) : Int := match o with
  | none => 99
  | some k => k
theorem ft_late_le {k : Nat} {p : Int} (hk : k < 8) (h : bt n es S B k p = true) : late (ft n es S B p) ≤ k := by
  obtain ⟨j, hj, q⟩ := ft_ex hk h
  rw [q]
  show (j : Int) ≤ k
  omega
theorem late_le {S' B' : Int → Bool} {es' : List (Int × Int)} {p : Int} (h : ∀ k, bt n es S B k p = true → bt n es' S' B' k p = true) : late (ft n es' S' B' p) ≤ late (ft n es S B p) := by
  cases q : ft n es S B p with
  | none =>
    show _ ≤ (99 : Int)
    cases q' : ft n es' S' B' p with
    | none => exact Int.le_refl _
    | some j =>
      have := (ft_some.mp q').1
      show (j : Int) ≤ 99
      omega
  | some k =>
    obtain ⟨h1, h2, _⟩ := ft_some.mp q
    exact ft_late_le h1 (h k h2)
theorem late_cases (p : Int) : late (ft n es S B p) = 99 ∨ ∃ k : Nat, k < 8 ∧ late (ft n es S B p) = k ∧ bt n es S B k p = true := by
  cases q : ft n es S B p with
  | none => exact .inl rfl
  | some k => exact .inr ⟨k, (ft_some.mp q).1, rfl, (ft_some.mp q).2.1⟩
end
end HF

set_option Elab.async false
set_option linter.all false
set_option maxRecDepth 100000
set_option maxHeartbeats 4000000
/-! ### GA: what the defs about webs and stands tell -/
namespace HF
open PySem
theorem in_two (p a b : Int) : inD (.int p) (.tuple [.int a, .int b]) = .ok (decide (p = a) || decide (p = b)) := by
  have := in_tup p [a, b]
  have e : PyData.tuple (ofI [a, b]) = .tuple [.int a, .int b] := rfl
  rw [e] at this
  rw [this]
  congr 1
  rw [Bool.eq_iff_iff]
  simp
theorem mem_dec {n : Nat} {B : Int → Bool} {x : Int} (h : In n x) : decide (x ∈ st n B) = B x := by
  cases hB : B x with
  | true => exact decide_eq_true (mem_st.mpr ⟨h, hB⟩)
  | false => exact decide_eq_false fun z => by rw [(mem_st.mp z).2] at hB; cases hB
theorem ofI_app (a b : List Int) : ofI a ++ ofI b = ofI (a ++ b) := by simp [ofI]
theorem ofI_snoc (a : List Int) (x : Int) : ofI a ++ [.int x] = ofI (a ++ [x]) := by simp [ofI]
theorem ofI_len (a : List Int) : (ofI a).length = a.length := by simp [ofI]
theorem ofP_len (a : List (Int × Int)) : (ofP a).length = a.length := by simp [ofP]
theorem bin_addl {xs ys : List PyData} (h : xs.length + ys.length ≤ 1000) : binD .add (.list xs) (.list ys) = .ok (.l (xs ++ ys)) := by
  simp only [binD]
  rw [if_pos (by unfold cap; omega)]
theorem bin_addt {xs ys : List PyData} (h : xs.length + ys.length ≤ 1000) : binD .add (.tuple xs) (.tuple ys) = .ok (.v (.tuple (xs ++ ys))) := by
  simp only [binD]
  rw [if_pos (by unfold cap; omega)]
theorem cmp_ne_nil (l : List Int) : cmpD .ne (.list (ofI l)) (.list []) = .ok (!l.isEmpty) := by
  rw [cmp_ne_pl (a := .list (ofI l)) (b := .list []) (k := 1) (pl_ofI l 0) rfl (by omega)]
  cases l <;> rfl
theorem cmp_eq_nil (l : List Int) : cmpD .eq (.list (ofI l)) (.list []) = .ok l.isEmpty := by
  rw [cmp_eq_pl (a := .list (ofI l)) (b := .list []) (k := 1) (pl_ofI l 0) rfl (by omega)]
  cases l <;> rfl
theorem st_one {n : Nat} {b : Int} (h : In n b) : st n (fun p => decide (p = b)) = [b] :=
  sorted_ext (st_sorted n _) (List.pairwise_singleton _ _) fun x => by
    rw [mem_st, decide_eq_true_eq, List.mem_singleton]
    exact ⟨fun z => z.2, fun z => ⟨z ▸ h, z⟩⟩
def sd (n : Nat) (B S : Int → Bool) : PyData := .tuple [.tuple (ofI (st n B)), .tuple (ofI (st n S))]
structure Stands (T : List Fn) (G : List PyData) : Prop extends Looks T G where
  f36 : nthF T 36 = some u_is_rising
  f37 : nthF T 37 = some u_stand_fits
  f38 : nthF T 38 = some u_is_stand
  f39 : nthF T 39 = some u_look_stand
  f42 : nthF T 42 = some u_threatened
  f44 : nthF T 44 = some u_spread_once
section
variable {T : List Fn} {G : List PyData} {n : Nat} {es : List (Int × Int)} {B S : Int → Bool}
theorem is_web_ok (t : Looks T G) (w : WF n es) (m : Nat) : cal T G (m + 3) 2 [.v (wb n es)] = .ok (.v (.bool true)) := by
  rw [cal_eq t.f2 rfl]
  show (exs (cal T G (m + 2)) G 1000 u_is_web.body [some (.v (wb n es)), none]).bind _ = _
  unfold u_is_web wb
  dsimp only
  have e2 : (((0 : Nat) + 1 + 1 : Nat) : Int) == 2 := rfl
  have hlo : ((1 : Int) ≤ (n : Int)) := by have := w.lo; omega
  have hhi : ((n : Int) ≤ 7) := by have := w.hi; omega
  simp only [exs_cons, exs_nil, ex_set, ex_sef, ex_unp, ex_par, ex_app, ex_ext, ex_six, ex_exp, ex_ret, ex_retv, ex_iff, ex_rse, ex_frz, ev_var, ev_cst, ev_glb, ev_bin, ev_neg, ev_cmp, ev_chn, ev_bo, ev_nt, ev_ite, ev_tup, ev_lst, ev_ix, ev_slc, ev_call, ev_b2, ev_isi, evs_nil, evs_cons, evr_nil, evr_cons, evB_one, evB_cons, pk, peek, nth, put, bindL_nil, bindL_cons, bindR_nil, bindR_cons, frzL, dat_v, dat_l, Res.dat_v, Res.dat_l, okb, exb, List.map_cons, List.map_nil, toI_int, toB_bool, bin_add, bin_sub, cmp_lt, cmp_le, cmp_gt, cmp_ge, cmp_eqi, cmp_nei, cmp_in, cmp_nin, b1_int, b1_lenl, b1_lent, b1_tupl, b1_tupt, b1_lstt, b1_lstl, ix_t0, ix_t1, isi_tup, isi_int, isi_nb, ev_b1v, ev_b1x, ev_b1c, ev_b1f, ev_b1b, ev_b1n, ev_b1t, ev_b1l, ev_b1s, if_true, if_false, Bool.false_eq_true, Bool.not_true, Bool.not_false, Bool.true_eq_false, List.length_cons, List.length_nil, e2, t.g0, is_whole_ok t, hlo, hhi, decide_true, Bool.and_self]
  rw [comp_dT (l := ofP es) (e := fun _ => .bool true) (by rfl) (fun x hx => ?_)]
  · have e0 := b1_all (fun _ : PyData => true) (ofP es)
    have e1 : (ofP es).all (fun _ => true) = true := List.all_eq_true.mpr fun _ _ => rfl
    rw [e1] at e0
    have e3 := b1_ssetP (l := es) (by have := w.len; omega) (fun p hp => by have := w.tie p hp; have := w.hi; omega)
    rw [usortP_id w.srt] at e3
    simp only [exs_cons, exs_nil, ex_set, ex_sef, ex_unp, ex_par, ex_app, ex_ext, ex_six, ex_exp, ex_ret, ex_retv, ex_iff, ex_rse, ex_frz, ev_var, ev_cst, ev_glb, ev_bin, ev_neg, ev_cmp, ev_chn, ev_bo, ev_nt, ev_ite, ev_tup, ev_lst, ev_ix, ev_slc, ev_call, ev_b2, ev_isi, evs_nil, evs_cons, evr_nil, evr_cons, evB_one, evB_cons, pk, peek, nth, put, bindL_nil, bindL_cons, bindR_nil, bindR_cons, frzL, dat_v, dat_l, Res.dat_v, Res.dat_l, okb, exb, List.map_cons, List.map_nil, toI_int, toB_bool, bin_add, bin_sub, cmp_lt, cmp_le, cmp_gt, cmp_ge, cmp_eqi, cmp_nei, cmp_in, cmp_nin, b1_int, b1_lenl, b1_lent, b1_tupl, b1_tupt, b1_lstt, b1_lstl, ix_t0, ix_t1, isi_tup, isi_int, isi_nb, ev_b1v, ev_b1x, ev_b1c, ev_b1f, ev_b1b, ev_b1n, ev_b1t, ev_b1l, ev_b1s, if_true, if_false, Bool.false_eq_true, Bool.not_true, Bool.not_false, Bool.true_eq_false, e0, e3, cmp_eq_same (a := .list (ofP es)) (k := 2) (pl_ofP es 0) (by omega)]
  · obtain ⟨e, he, rfl⟩ := List.mem_map.mp hx
    have h := w.tie e he
    simp only [exs_cons, exs_nil, ex_set, ex_sef, ex_unp, ex_par, ex_app, ex_ext, ex_six, ex_exp, ex_ret, ex_retv, ex_iff, ex_rse, ex_frz, ev_var, ev_cst, ev_glb, ev_bin, ev_neg, ev_cmp, ev_chn, ev_bo, ev_nt, ev_ite, ev_tup, ev_lst, ev_ix, ev_slc, ev_call, ev_b2, ev_isi, evs_nil, evs_cons, evr_nil, evr_cons, evB_one, evB_cons, pk, peek, nth, put, bindL_nil, bindL_cons, bindR_nil, bindR_cons, frzL, dat_v, dat_l, Res.dat_v, Res.dat_l, okb, exb, List.map_cons, List.map_nil, toI_int, toB_bool, bin_add, bin_sub, cmp_lt, cmp_le, cmp_gt, cmp_ge, cmp_eqi, cmp_nei, cmp_in, cmp_nin, b1_int, b1_lenl, b1_lent, b1_tupl, b1_tupt, b1_lstt, b1_lstl, ix_t0, ix_t1, isi_tup, isi_int, isi_nb, ev_b1v, ev_b1x, ev_b1c, ev_b1f, ev_b1b, ev_b1n, ev_b1t, ev_b1l, ev_b1s, if_true, if_false, Bool.false_eq_true, Bool.not_true, Bool.not_false, Bool.true_eq_false, is_tie_ok t m h.1 h.2.1 h.2.2]
theorem look_web_ok (t : Looks T G) (w : WF n es) (m : Nat) : cal T G (m + 4) 3 [.v (wb n es)] = .ok (.v .none) := by
  rw [cal_eq t.f3 rfl]
  show (exs (cal T G (m + 3)) G 1000 u_look_web.body [some (.v (wb n es))]).bind _ = _
  unfold u_look_web
  dsimp only
  simp only [exs_cons, exs_nil, ex_set, ex_sef, ex_unp, ex_par, ex_app, ex_ext, ex_six, ex_exp, ex_ret, ex_retv, ex_iff, ex_rse, ex_frz, ev_var, ev_cst, ev_glb, ev_bin, ev_neg, ev_cmp, ev_chn, ev_bo, ev_nt, ev_ite, ev_tup, ev_lst, ev_ix, ev_slc, ev_call, ev_b2, ev_isi, evs_nil, evs_cons, evr_nil, evr_cons, evB_one, evB_cons, pk, peek, nth, put, bindL_nil, bindL_cons, bindR_nil, bindR_cons, frzL, dat_v, dat_l, Res.dat_v, Res.dat_l, okb, exb, List.map_cons, List.map_nil, toI_int, toB_bool, bin_add, bin_sub, cmp_lt, cmp_le, cmp_gt, cmp_ge, cmp_eqi, cmp_nei, cmp_in, cmp_nin, b1_int, b1_lenl, b1_lent, b1_tupl, b1_tupt, b1_lstt, b1_lstl, ix_t0, ix_t1, isi_tup, isi_int, isi_nb, ev_b1v, ev_b1x, ev_b1c, ev_b1f, ev_b1b, ev_b1n, ev_b1t, ev_b1l, ev_b1s, if_true, if_false, Bool.false_eq_true, Bool.not_true, Bool.not_false, Bool.true_eq_false, is_web_ok t w m]
theorem beside_list (w : WF n es) {p : Int} (hp : In n p) : isort ltI ((es.filter fun e => decide (p = e.1) || decide (p = e.2)).map fun e => e.1 + e.2 - p) = st n (adj es p) := by
  refine isort_st ?_ fun x => ?_
  · rw [List.Nodup, List.pairwise_map]
    refine (w.srt.filter _).imp_of_mem fun {a b} ha hb h => ?_
    obtain ⟨ha, ca⟩ := List.mem_filter.mp ha
    obtain ⟨hb, cb⟩ := List.mem_filter.mp hb
    have ta := w.tie a ha
    have tb := w.tie b hb
    rw [Bool.or_eq_true, decide_eq_true_eq, decide_eq_true_eq] at ca cb
    unfold lexP at h
    split at h <;> (have := of_decide_eq_true h; omega)
  · rw [List.mem_map]
    unfold adj
    rw [Bool.or_eq_true, decide_eq_true_eq, decide_eq_true_eq]
    constructor
    · rintro ⟨e, he, rfl⟩
      obtain ⟨he, ce⟩ := List.mem_filter.mp he
      have te := w.tie e he
      rw [Bool.or_eq_true, decide_eq_true_eq, decide_eq_true_eq] at ce
      rcases ce with ce | ce
      · have q : e.1 + e.2 - p = e.2 := by omega
        rw [q]
        exact ⟨⟨by omega, by omega⟩, .inl (by rw [ce]; exact he)⟩
      · have q : e.1 + e.2 - p = e.1 := by omega
        rw [q]
        exact ⟨⟨by omega, by omega⟩, .inr (by rw [ce]; exact he)⟩
    · rintro ⟨hx, h | h⟩
      · exact ⟨(p, x), List.mem_filter.mpr ⟨h, by simp⟩, by show p + x - p = x; omega⟩
      · exact ⟨(x, p), List.mem_filter.mpr ⟨h, by simp⟩, by show x + p - p = x; omega⟩
theorem beside_ok (t : Looks T G) (w : WF n es) {p : Int} (hp : In n p) (m : Nat) : cal T G (m + 1) 4 [.v (wb n es), .v (.int p)] = .ok (.l (ofI (st n (adj es p)))) := by
  rw [cal_eq t.f4 rfl]
  show (exs (cal T G m) G 1000 u_beside.body [some (.v (wb n es)), some (.v (.int p)), none, none]).bind _ = _
  unfold u_beside wb
  dsimp only
  simp only [exs_cons, exs_nil, ex_set, ex_sef, ex_unp, ex_par, ex_app, ex_ext, ex_six, ex_exp, ex_ret, ex_retv, ex_iff, ex_rse, ex_frz, ev_var, ev_cst, ev_glb, ev_bin, ev_neg, ev_cmp, ev_chn, ev_bo, ev_nt, ev_ite, ev_tup, ev_lst, ev_ix, ev_slc, ev_call, ev_b2, ev_isi, evs_nil, evs_cons, evr_nil, evr_cons, evB_one, evB_cons, pk, peek, nth, put, bindL_nil, bindL_cons, bindR_nil, bindR_cons, frzL, dat_v, dat_l, Res.dat_v, Res.dat_l, okb, exb, List.map_cons, List.map_nil, toI_int, toB_bool, bin_add, bin_sub, cmp_lt, cmp_le, cmp_gt, cmp_ge, cmp_eqi, cmp_nei, cmp_in, cmp_nin, b1_int, b1_lenl, b1_lent, b1_tupl, b1_tupt, b1_lstt, b1_lstl, ix_t0, ix_t1, isi_tup, isi_int, isi_nb, ev_b1v, ev_b1x, ev_b1c, ev_b1f, ev_b1b, ev_b1n, ev_b1t, ev_b1l, ev_b1s, if_true, if_false, Bool.false_eq_true, Bool.not_true, Bool.not_false, Bool.true_eq_false]
  rw [comp_p (l := es) (c := fun e => decide (p = e.1) || decide (p = e.2)) (e := fun e => .int (e.1 + e.2 - p)) (by rfl) (fun x hx => ?_) (fun x hx _ => ?_)]
  · have e1 : ((es.filter fun e => decide (p = e.1) || decide (p = e.2)).map fun e => PyData.int (e.1 + e.2 - p)) = ofI ((es.filter fun e => decide (p = e.1) || decide (p = e.2)).map fun e => e.1 + e.2 - p) := by
      unfold ofI
      rw [List.map_map]
      rfl
    rw [e1]
    simp only [exs_cons, exs_nil, ex_set, ex_sef, ex_unp, ex_par, ex_app, ex_ext, ex_six, ex_exp, ex_ret, ex_retv, ex_iff, ex_rse, ex_frz, ev_var, ev_cst, ev_glb, ev_bin, ev_neg, ev_cmp, ev_chn, ev_bo, ev_nt, ev_ite, ev_tup, ev_lst, ev_ix, ev_slc, ev_call, ev_b2, ev_isi, evs_nil, evs_cons, evr_nil, evr_cons, evB_one, evB_cons, pk, peek, nth, put, bindL_nil, bindL_cons, bindR_nil, bindR_cons, frzL, dat_v, dat_l, Res.dat_v, Res.dat_l, okb, exb, List.map_cons, List.map_nil, toI_int, toB_bool, bin_add, bin_sub, cmp_lt, cmp_le, cmp_gt, cmp_ge, cmp_eqi, cmp_nei, cmp_in, cmp_nin, b1_int, b1_lenl, b1_lent, b1_tupl, b1_tupt, b1_lstt, b1_lstl, ix_t0, ix_t1, isi_tup, isi_int, isi_nb, ev_b1v, ev_b1x, ev_b1c, ev_b1f, ev_b1b, ev_b1n, ev_b1t, ev_b1l, ev_b1s, if_true, if_false, Bool.false_eq_true, Bool.not_true, Bool.not_false, Bool.true_eq_false, b1_sortI, beside_list w hp]
  · simp only [exs_cons, exs_nil, ex_set, ex_sef, ex_unp, ex_par, ex_app, ex_ext, ex_six, ex_exp, ex_ret, ex_retv, ex_iff, ex_rse, ex_frz, ev_var, ev_cst, ev_glb, ev_bin, ev_neg, ev_cmp, ev_chn, ev_bo, ev_nt, ev_ite, ev_tup, ev_lst, ev_ix, ev_slc, ev_call, ev_b2, ev_isi, evs_nil, evs_cons, evr_nil, evr_cons, evB_one, evB_cons, pk, peek, nth, put, bindL_nil, bindL_cons, bindR_nil, bindR_cons, frzL, dat_v, dat_l, Res.dat_v, Res.dat_l, okb, exb, List.map_cons, List.map_nil, toI_int, toB_bool, bin_add, bin_sub, cmp_lt, cmp_le, cmp_gt, cmp_ge, cmp_eqi, cmp_nei, cmp_in, cmp_nin, b1_int, b1_lenl, b1_lent, b1_tupl, b1_tupt, b1_lstt, b1_lstl, ix_t0, ix_t1, isi_tup, isi_int, isi_nb, ev_b1v, ev_b1x, ev_b1c, ev_b1f, ev_b1b, ev_b1n, ev_b1t, ev_b1l, ev_b1s, if_true, if_false, Bool.false_eq_true, Bool.not_true, Bool.not_false, Bool.true_eq_false, clr, unput, in_two]
  · simp only [exs_cons, exs_nil, ex_set, ex_sef, ex_unp, ex_par, ex_app, ex_ext, ex_six, ex_exp, ex_ret, ex_retv, ex_iff, ex_rse, ex_frz, ev_var, ev_cst, ev_glb, ev_bin, ev_neg, ev_cmp, ev_chn, ev_bo, ev_nt, ev_ite, ev_tup, ev_lst, ev_ix, ev_slc, ev_call, ev_b2, ev_isi, evs_nil, evs_cons, evr_nil, evr_cons, evB_one, evB_cons, pk, peek, nth, put, bindL_nil, bindL_cons, bindR_nil, bindR_cons, frzL, dat_v, dat_l, Res.dat_v, Res.dat_l, okb, exb, List.map_cons, List.map_nil, toI_int, toB_bool, bin_add, bin_sub, cmp_lt, cmp_le, cmp_gt, cmp_ge, cmp_eqi, cmp_nei, cmp_in, cmp_nin, b1_int, b1_lenl, b1_lent, b1_tupl, b1_tupt, b1_lstt, b1_lstl, ix_t0, ix_t1, isi_tup, isi_int, isi_nb, ev_b1v, ev_b1x, ev_b1c, ev_b1f, ev_b1b, ev_b1n, ev_b1t, ev_b1l, ev_b1s, if_true, if_false, Bool.false_eq_true, Bool.not_true, Bool.not_false, Bool.true_eq_false, clr, unput]
theorem is_rising_ok (t : Stands T G) (w : WF n es) (m : Nat) : cal T G (m + 2) 36 [.v (wb n es), .v (.tuple (ofI (st n B)))] = .ok (.v (.bool true)) := by
  rw [cal_eq t.f36 rfl]
  show (exs (cal T G (m + 1)) G 1000 u_is_rising.body [some (.v (wb n es)), some (.v (.tuple (ofI (st n B)))), none]).bind _ = _
  unfold u_is_rising wb
  dsimp only
  simp only [exs_cons, exs_nil, ex_set, ex_sef, ex_unp, ex_par, ex_app, ex_ext, ex_six, ex_exp, ex_ret, ex_retv, ex_iff, ex_rse, ex_frz, ev_var, ev_cst, ev_glb, ev_bin, ev_neg, ev_cmp, ev_chn, ev_bo, ev_nt, ev_ite, ev_tup, ev_lst, ev_ix, ev_slc, ev_call, ev_b2, ev_isi, evs_nil, evs_cons, evr_nil, evr_cons, evB_one, evB_cons, pk, peek, nth, put, bindL_nil, bindL_cons, bindR_nil, bindR_cons, frzL, dat_v, dat_l, Res.dat_v, Res.dat_l, okb, exb, List.map_cons, List.map_nil, toI_int, toB_bool, bin_add, bin_sub, cmp_lt, cmp_le, cmp_gt, cmp_ge, cmp_eqi, cmp_nei, cmp_in, cmp_nin, b1_int, b1_lenl, b1_lent, b1_tupl, b1_tupt, b1_lstt, b1_lstl, ix_t0, ix_t1, isi_tup, isi_int, isi_nb, ev_b1v, ev_b1x, ev_b1c, ev_b1f, ev_b1b, ev_b1n, ev_b1t, ev_b1l, ev_b1s, if_true, if_false, Bool.false_eq_true, Bool.not_true, Bool.not_false, Bool.true_eq_false]
  rw [comp_lT (l := st n B) (e := fun _ => .bool true) (by rfl) (fun x hx => ?_)]
  · have e0 := b1_all (fun _ : Int => true) (st n B)
    have e1 : (st n B).all (fun _ => true) = true := List.all_eq_true.mpr fun _ _ => rfl
    rw [e1] at e0
    have e3 := b1_ssetI (l := st n B) (by have := st_len n B; have := w.hi; omega)
    rw [usort_id (st_sorted n B)] at e3
    simp only [exs_cons, exs_nil, ex_set, ex_sef, ex_unp, ex_par, ex_app, ex_ext, ex_six, ex_exp, ex_ret, ex_retv, ex_iff, ex_rse, ex_frz, ev_var, ev_cst, ev_glb, ev_bin, ev_neg, ev_cmp, ev_chn, ev_bo, ev_nt, ev_ite, ev_tup, ev_lst, ev_ix, ev_slc, ev_call, ev_b2, ev_isi, evs_nil, evs_cons, evr_nil, evr_cons, evB_one, evB_cons, pk, peek, nth, put, bindL_nil, bindL_cons, bindR_nil, bindR_cons, frzL, dat_v, dat_l, Res.dat_v, Res.dat_l, okb, exb, List.map_cons, List.map_nil, toI_int, toB_bool, bin_add, bin_sub, cmp_lt, cmp_le, cmp_gt, cmp_ge, cmp_eqi, cmp_nei, cmp_in, cmp_nin, b1_int, b1_lenl, b1_lent, b1_tupl, b1_tupt, b1_lstt, b1_lstl, ix_t0, ix_t1, isi_tup, isi_int, isi_nb, ev_b1v, ev_b1x, ev_b1c, ev_b1f, ev_b1b, ev_b1n, ev_b1t, ev_b1l, ev_b1s, if_true, if_false, Bool.false_eq_true, Bool.not_true, Bool.not_false, Bool.true_eq_false, e0, e3, cmp_eq_same (a := .list (ofI (st n B))) (k := 1) (pl_ofI _ 0) (by omega)]
  · have h := (mem_st.mp hx).1
    have h2 : x ≤ (n : Int) - 1 := by omega
    simp only [exs_cons, exs_nil, ex_set, ex_sef, ex_unp, ex_par, ex_app, ex_ext, ex_six, ex_exp, ex_ret, ex_retv, ex_iff, ex_rse, ex_frz, ev_var, ev_cst, ev_glb, ev_bin, ev_neg, ev_cmp, ev_chn, ev_bo, ev_nt, ev_ite, ev_tup, ev_lst, ev_ix, ev_slc, ev_call, ev_b2, ev_isi, evs_nil, evs_cons, evr_nil, evr_cons, evB_one, evB_cons, pk, peek, nth, put, bindL_nil, bindL_cons, bindR_nil, bindR_cons, frzL, dat_v, dat_l, Res.dat_v, Res.dat_l, okb, exb, List.map_cons, List.map_nil, toI_int, toB_bool, bin_add, bin_sub, cmp_lt, cmp_le, cmp_gt, cmp_ge, cmp_eqi, cmp_nei, cmp_in, cmp_nin, b1_int, b1_lenl, b1_lent, b1_tupl, b1_tupt, b1_lstt, b1_lstl, ix_t0, ix_t1, isi_tup, isi_int, isi_nb, ev_b1v, ev_b1x, ev_b1c, ev_b1f, ev_b1b, ev_b1n, ev_b1t, ev_b1l, ev_b1s, if_true, if_false, Bool.false_eq_true, Bool.not_true, Bool.not_false, Bool.true_eq_false, whole_in t.toLooks m h.1 h2]
theorem stand_fits_ok (t : Stands T G) (w : WF n es) (dj : ∀ p, In n p → B p = true → S p = false) (m : Nat) : cal T G (m + 3) 37 [.v (wb n es), .v (sd n B S)] = .ok (.v (.bool true)) := by
  rw [cal_eq t.f37 rfl]
  show (exs (cal T G (m + 2)) G 1000 u_stand_fits.body [some (.v (wb n es)), some (.v (sd n B S)), none, none]).bind _ = _
  unfold u_stand_fits sd
  dsimp only
  have e2 : (((0 : Nat) + 1 + 1 : Nat) : Int) == 2 := rfl
  simp only [exs_cons, exs_nil, ex_set, ex_sef, ex_unp, ex_par, ex_app, ex_ext, ex_six, ex_exp, ex_ret, ex_retv, ex_iff, ex_rse, ex_frz, ev_var, ev_cst, ev_glb, ev_bin, ev_neg, ev_cmp, ev_chn, ev_bo, ev_nt, ev_ite, ev_tup, ev_lst, ev_ix, ev_slc, ev_call, ev_b2, ev_isi, evs_nil, evs_cons, evr_nil, evr_cons, evB_one, evB_cons, pk, peek, nth, put, bindL_nil, bindL_cons, bindR_nil, bindR_cons, frzL, dat_v, dat_l, Res.dat_v, Res.dat_l, okb, exb, List.map_cons, List.map_nil, toI_int, toB_bool, bin_add, bin_sub, cmp_lt, cmp_le, cmp_gt, cmp_ge, cmp_eqi, cmp_nei, cmp_in, cmp_nin, b1_int, b1_lenl, b1_lent, b1_tupl, b1_tupt, b1_lstt, b1_lstl, ix_t0, ix_t1, isi_tup, isi_int, isi_nb, ev_b1v, ev_b1x, ev_b1c, ev_b1f, ev_b1b, ev_b1n, ev_b1t, ev_b1l, ev_b1s, if_true, if_false, Bool.false_eq_true, Bool.not_true, Bool.not_false, Bool.true_eq_false, List.length_cons, List.length_nil, e2]
  rw [comp_dT (l := [.tuple (ofI (st n B)), .tuple (ofI (st n S))]) (e := fun _ => .bool true) (by rfl) (fun x hx => ?_)]
  · have e0 := b1_all (fun _ : PyData => true) [.tuple (ofI (st n B)), .tuple (ofI (st n S))]
    simp only [List.map_cons, List.map_nil, List.all_cons, List.all_nil, Bool.and_self] at e0
    simp only [exs_cons, exs_nil, ex_set, ex_sef, ex_unp, ex_par, ex_app, ex_ext, ex_six, ex_exp, ex_ret, ex_retv, ex_iff, ex_rse, ex_frz, ev_var, ev_cst, ev_glb, ev_bin, ev_neg, ev_cmp, ev_chn, ev_bo, ev_nt, ev_ite, ev_tup, ev_lst, ev_ix, ev_slc, ev_call, ev_b2, ev_isi, evs_nil, evs_cons, evr_nil, evr_cons, evB_one, evB_cons, pk, peek, nth, put, bindL_nil, bindL_cons, bindR_nil, bindR_cons, frzL, dat_v, dat_l, Res.dat_v, Res.dat_l, okb, exb, List.map_cons, List.map_nil, toI_int, toB_bool, bin_add, bin_sub, cmp_lt, cmp_le, cmp_gt, cmp_ge, cmp_eqi, cmp_nei, cmp_in, cmp_nin, b1_int, b1_lenl, b1_lent, b1_tupl, b1_tupt, b1_lstt, b1_lstl, ix_t0, ix_t1, isi_tup, isi_int, isi_nb, ev_b1v, ev_b1x, ev_b1c, ev_b1f, ev_b1b, ev_b1n, ev_b1t, ev_b1l, ev_b1s, if_true, if_false, Bool.false_eq_true, Bool.not_true, Bool.not_false, Bool.true_eq_false, e0]
    rw [comp_lT (l := st n B) (e := fun x => .bool (decide (x ∈ st n S))) (by rfl) (fun x hx => ?_)]
    · have e1 : (st n B).any (fun x => decide (x ∈ st n S)) = false := by
        rw [List.any_eq_false]
        intro x hx
        obtain ⟨h1, h2⟩ := mem_st.mp hx
        rw [mem_dec h1, dj x h1 h2]
        simp
      simp only [exs_cons, exs_nil, ex_set, ex_sef, ex_unp, ex_par, ex_app, ex_ext, ex_six, ex_exp, ex_ret, ex_retv, ex_iff, ex_rse, ex_frz, ev_var, ev_cst, ev_glb, ev_bin, ev_neg, ev_cmp, ev_chn, ev_bo, ev_nt, ev_ite, ev_tup, ev_lst, ev_ix, ev_slc, ev_call, ev_b2, ev_isi, evs_nil, evs_cons, evr_nil, evr_cons, evB_one, evB_cons, pk, peek, nth, put, bindL_nil, bindL_cons, bindR_nil, bindR_cons, frzL, dat_v, dat_l, Res.dat_v, Res.dat_l, okb, exb, List.map_cons, List.map_nil, toI_int, toB_bool, bin_add, bin_sub, cmp_lt, cmp_le, cmp_gt, cmp_ge, cmp_eqi, cmp_nei, cmp_in, cmp_nin, b1_int, b1_lenl, b1_lent, b1_tupl, b1_tupt, b1_lstt, b1_lstl, ix_t0, ix_t1, isi_tup, isi_int, isi_nb, ev_b1v, ev_b1x, ev_b1c, ev_b1f, ev_b1b, ev_b1n, ev_b1t, ev_b1l, ev_b1s, if_true, if_false, Bool.false_eq_true, Bool.not_true, Bool.not_false, Bool.true_eq_false, b1_any, e1]
    · simp only [exs_cons, exs_nil, ex_set, ex_sef, ex_unp, ex_par, ex_app, ex_ext, ex_six, ex_exp, ex_ret, ex_retv, ex_iff, ex_rse, ex_frz, ev_var, ev_cst, ev_glb, ev_bin, ev_neg, ev_cmp, ev_chn, ev_bo, ev_nt, ev_ite, ev_tup, ev_lst, ev_ix, ev_slc, ev_call, ev_b2, ev_isi, evs_nil, evs_cons, evr_nil, evr_cons, evB_one, evB_cons, pk, peek, nth, put, bindL_nil, bindL_cons, bindR_nil, bindR_cons, frzL, dat_v, dat_l, Res.dat_v, Res.dat_l, okb, exb, List.map_cons, List.map_nil, toI_int, toB_bool, bin_add, bin_sub, cmp_lt, cmp_le, cmp_gt, cmp_ge, cmp_eqi, cmp_nei, cmp_in, cmp_nin, b1_int, b1_lenl, b1_lent, b1_tupl, b1_tupt, b1_lstt, b1_lstl, ix_t0, ix_t1, isi_tup, isi_int, isi_nb, ev_b1v, ev_b1x, ev_b1c, ev_b1f, ev_b1b, ev_b1n, ev_b1t, ev_b1l, ev_b1s, if_true, if_false, Bool.false_eq_true, Bool.not_true, Bool.not_false, Bool.true_eq_false, in_tup]
  · simp only [List.mem_cons, List.not_mem_nil, or_false] at hx
    rcases hx with rfl | rfl
    · simp only [exs_cons, exs_nil, ex_set, ex_sef, ex_unp, ex_par, ex_app, ex_ext, ex_six, ex_exp, ex_ret, ex_retv, ex_iff, ex_rse, ex_frz, ev_var, ev_cst, ev_glb, ev_bin, ev_neg, ev_cmp, ev_chn, ev_bo, ev_nt, ev_ite, ev_tup, ev_lst, ev_ix, ev_slc, ev_call, ev_b2, ev_isi, evs_nil, evs_cons, evr_nil, evr_cons, evB_one, evB_cons, pk, peek, nth, put, bindL_nil, bindL_cons, bindR_nil, bindR_cons, frzL, dat_v, dat_l, Res.dat_v, Res.dat_l, okb, exb, List.map_cons, List.map_nil, toI_int, toB_bool, bin_add, bin_sub, cmp_lt, cmp_le, cmp_gt, cmp_ge, cmp_eqi, cmp_nei, cmp_in, cmp_nin, b1_int, b1_lenl, b1_lent, b1_tupl, b1_tupt, b1_lstt, b1_lstl, ix_t0, ix_t1, isi_tup, isi_int, isi_nb, ev_b1v, ev_b1x, ev_b1c, ev_b1f, ev_b1b, ev_b1n, ev_b1t, ev_b1l, ev_b1s, if_true, if_false, Bool.false_eq_true, Bool.not_true, Bool.not_false, Bool.true_eq_false, is_rising_ok t w]
    · simp only [exs_cons, exs_nil, ex_set, ex_sef, ex_unp, ex_par, ex_app, ex_ext, ex_six, ex_exp, ex_ret, ex_retv, ex_iff, ex_rse, ex_frz, ev_var, ev_cst, ev_glb, ev_bin, ev_neg, ev_cmp, ev_chn, ev_bo, ev_nt, ev_ite, ev_tup, ev_lst, ev_ix, ev_slc, ev_call, ev_b2, ev_isi, evs_nil, evs_cons, evr_nil, evr_cons, evB_one, evB_cons, pk, peek, nth, put, bindL_nil, bindL_cons, bindR_nil, bindR_cons, frzL, dat_v, dat_l, Res.dat_v, Res.dat_l, okb, exb, List.map_cons, List.map_nil, toI_int, toB_bool, bin_add, bin_sub, cmp_lt, cmp_le, cmp_gt, cmp_ge, cmp_eqi, cmp_nei, cmp_in, cmp_nin, b1_int, b1_lenl, b1_lent, b1_tupl, b1_tupt, b1_lstt, b1_lstl, ix_t0, ix_t1, isi_tup, isi_int, isi_nb, ev_b1v, ev_b1x, ev_b1c, ev_b1f, ev_b1b, ev_b1n, ev_b1t, ev_b1l, ev_b1s, if_true, if_false, Bool.false_eq_true, Bool.not_true, Bool.not_false, Bool.true_eq_false, is_rising_ok t w]
theorem look_stand_ok (t : Stands T G) (w : WF n es) (dj : ∀ p, In n p → B p = true → S p = false) (m : Nat) : cal T G (m + 6) 39 [.v (wb n es), .v (sd n B S)] = .ok (.v .none) := by
  have h : cal T G (m + 5) 38 [.v (wb n es), .v (sd n B S)] = .ok (.v (.bool true)) := by
    rw [cal_eq t.f38 rfl]
    show (exs (cal T G (m + 4)) G 1000 u_is_stand.body [some (.v (wb n es)), some (.v (sd n B S))]).bind _ = _
    unfold u_is_stand
    dsimp only
    simp only [exs_cons, exs_nil, ex_set, ex_sef, ex_unp, ex_par, ex_app, ex_ext, ex_six, ex_exp, ex_ret, ex_retv, ex_iff, ex_rse, ex_frz, ev_var, ev_cst, ev_glb, ev_bin, ev_neg, ev_cmp, ev_chn, ev_bo, ev_nt, ev_ite, ev_tup, ev_lst, ev_ix, ev_slc, ev_call, ev_b2, ev_isi, evs_nil, evs_cons, evr_nil, evr_cons, evB_one, evB_cons, pk, peek, nth, put, bindL_nil, bindL_cons, bindR_nil, bindR_cons, frzL, dat_v, dat_l, Res.dat_v, Res.dat_l, okb, exb, List.map_cons, List.map_nil, toI_int, toB_bool, bin_add, bin_sub, cmp_lt, cmp_le, cmp_gt, cmp_ge, cmp_eqi, cmp_nei, cmp_in, cmp_nin, b1_int, b1_lenl, b1_lent, b1_tupl, b1_tupt, b1_lstt, b1_lstl, ix_t0, ix_t1, isi_tup, isi_int, isi_nb, ev_b1v, ev_b1x, ev_b1c, ev_b1f, ev_b1b, ev_b1n, ev_b1t, ev_b1l, ev_b1s, if_true, if_false, Bool.false_eq_true, Bool.not_true, Bool.not_false, Bool.true_eq_false, look_web_ok t.toLooks w m, stand_fits_ok t w dj (m + 1)]
  rw [cal_eq t.f39 rfl]
  show (exs (cal T G (m + 5)) G 1000 u_look_stand.body [some (.v (wb n es)), some (.v (sd n B S))]).bind _ = _
  unfold u_look_stand
  dsimp only
  simp only [exs_cons, exs_nil, ex_set, ex_sef, ex_unp, ex_par, ex_app, ex_ext, ex_six, ex_exp, ex_ret, ex_retv, ex_iff, ex_rse, ex_frz, ev_var, ev_cst, ev_glb, ev_bin, ev_neg, ev_cmp, ev_chn, ev_bo, ev_nt, ev_ite, ev_tup, ev_lst, ev_ix, ev_slc, ev_call, ev_b2, ev_isi, evs_nil, evs_cons, evr_nil, evr_cons, evB_one, evB_cons, pk, peek, nth, put, bindL_nil, bindL_cons, bindR_nil, bindR_cons, frzL, dat_v, dat_l, Res.dat_v, Res.dat_l, okb, exb, List.map_cons, List.map_nil, toI_int, toB_bool, bin_add, bin_sub, cmp_lt, cmp_le, cmp_gt, cmp_ge, cmp_eqi, cmp_nei, cmp_in, cmp_nin, b1_int, b1_lenl, b1_lent, b1_tupl, b1_tupt, b1_lstt, b1_lstl, ix_t0, ix_t1, isi_tup, isi_int, isi_nb, ev_b1v, ev_b1x, ev_b1c, ev_b1f, ev_b1b, ev_b1n, ev_b1t, ev_b1l, ev_b1s, if_true, if_false, Bool.false_eq_true, Bool.not_true, Bool.not_false, Bool.true_eq_false, h]
/-- what burns next -/
def thr (n : Nat) (es : List (Int × Int)) (S B : Int → Bool) (q : Int) : Bool := !B q && (!S q && nb n es B q)
theorem any_nb (x : Int) : ((st n (adj es x)).any fun p => decide (p ∈ st n B)) = nb n es B x := by
  refine bool_ext (fun h => ?_) fun h => ?_
  · obtain ⟨p, hp, h⟩ := List.any_eq_true.mp h
    obtain ⟨h1, h2⟩ := mem_st.mp hp
    rw [mem_dec h1] at h
    exact nb_iff.mpr ⟨p, h1, h2, h⟩
  · obtain ⟨p, hp, h1, h2⟩ := nb_iff.mp h
    exact List.any_eq_true.mpr ⟨p, mem_st.mpr ⟨hp, h1⟩, by rw [mem_dec hp]; exact h2⟩
theorem filt_snoc {α : Type} (c : α → Bool) (d : List α) (x : α) : (d ++ [x]).filter c = d.filter c ++ (if c x then [x] else []) := by
  rw [List.filter_append]
  cases h : c x <;> simp [h]
theorem its_rng1 {cl : Nat → List Res → O Res} {a : E} {r : Env} {k : Nat} (hk : k ≤ 1000) (h : ev cl G a r = .ok (.v (.int k))) : its cl G (.rng1 a) r = .ok ((rg k).map .int) := by
  show (dat (ev cl G a r)).bind _ = _
  rw [h, dat_v, O.ok_bind, toI_int, O.ok_bind, rngD_zero k hk]
theorem len_ok {α : Type} {d : List Int} {k : Nat} {c : Int → Bool} {x : Int} {xs : List Int} (h : d ++ x :: xs = rg k) (hk : k ≤ 1000) : (ofI (d.filter c)).length < cap := by
  have h1 := List.length_filter_le c d
  have h2 : (d ++ x :: xs).length = k := by rw [h, rg_length]
  rw [List.length_append] at h2
  rw [ofI_len]
  unfold cap
  omega
theorem threatened_ok (t : Stands T G) (w : WF n es) (m : Nat) : cal T G (m + 2) 42 [.v (wb n es), .v (sd n B S)] = .ok (.l (ofI (st n (thr n es S B)))) := by
  rw [cal_eq t.f42 rfl]
  show (exs (cal T G (m + 1)) G 1000 u_threatened.body [some (.v (wb n es)), some (.v (sd n B S)), none, none, none, none, none]).bind _ = _
  have hn : n ≤ 1000 := by have := w.hi; omega
  unfold u_threatened sd
  dsimp only
  simp only [exs_cons, exs_nil, ex_set, ex_sef, ex_unp, ex_par, ex_app, ex_ext, ex_six, ex_exp, ex_ret, ex_retv, ex_iff, ex_rse, ex_frz, ev_var, ev_cst, ev_glb, ev_bin, ev_neg, ev_cmp, ev_chn, ev_bo, ev_nt, ev_ite, ev_tup, ev_lst, ev_ix, ev_slc, ev_call, ev_b2, ev_isi, evs_nil, evs_cons, evr_nil, evr_cons, evB_one, evB_cons, pk, peek, nth, put, bindL_nil, bindL_cons, bindR_nil, bindR_cons, frzL, dat_v, dat_l, Res.dat_v, Res.dat_l, okb, exb, List.map_cons, List.map_nil, toI_int, toB_bool, bin_add, bin_sub, cmp_lt, cmp_le, cmp_gt, cmp_ge, cmp_eqi, cmp_nei, cmp_in, cmp_nin, b1_int, b1_lenl, b1_lent, b1_tupl, b1_tupt, b1_lstt, b1_lstl, ix_t0, ix_t1, isi_tup, isi_int, isi_nb, ev_b1v, ev_b1x, ev_b1c, ev_b1f, ev_b1b, ev_b1n, ev_b1t, ev_b1l, ev_b1s, if_true, if_false, Bool.false_eq_true, Bool.not_true, Bool.not_false, Bool.true_eq_false]
  simp only [O.bind_assoc]
  refine fr_bind (enc := .int) (fun xs r => ∃ (d : List Int) (j : Option Res), d ++ xs = rg n ∧ r = [some (.v (wb n es)), some (.v (.tuple [.tuple (ofI (st n B)), .tuple (ofI (st n S))])), some (.l (ofI (d.filter (thr n es S B)))), j, some (.v (.tuple (ofI (st n B)))), some (.v (.tuple (ofI (st n S)))), none])
    (its_rng1 (k := n) hn (by simp only [exs_cons, exs_nil, ex_set, ex_sef, ex_unp, ex_par, ex_app, ex_ext, ex_six, ex_exp, ex_ret, ex_retv, ex_iff, ex_rse, ex_frz, ev_var, ev_cst, ev_glb, ev_bin, ev_neg, ev_cmp, ev_chn, ev_bo, ev_nt, ev_ite, ev_tup, ev_lst, ev_ix, ev_slc, ev_call, ev_b2, ev_isi, evs_nil, evs_cons, evr_nil, evr_cons, evB_one, evB_cons, pk, peek, nth, put, bindL_nil, bindL_cons, bindR_nil, bindR_cons, frzL, dat_v, dat_l, Res.dat_v, Res.dat_l, okb, exb, List.map_cons, List.map_nil, toI_int, toB_bool, bin_add, bin_sub, cmp_lt, cmp_le, cmp_gt, cmp_ge, cmp_eqi, cmp_nei, cmp_in, cmp_nin, b1_int, b1_lenl, b1_lent, b1_tupl, b1_tupt, b1_lstt, b1_lstl, ix_t0, ix_t1, isi_tup, isi_int, isi_nb, ev_b1v, ev_b1x, ev_b1c, ev_b1f, ev_b1b, ev_b1n, ev_b1t, ev_b1l, ev_b1s, if_true, if_false, Bool.false_eq_true, Bool.not_true, Bool.not_false, Bool.true_eq_false, wb])) ⟨[], none, rfl, rfl⟩ ?_ ?_
  · rintro x xs r ⟨d, j, hd, rfl⟩
    have hx : In n x := mem_rg.mp (by rw [← hd]; simp)
    refine ⟨_, _, rfl, ?_, d ++ [x], some (.v (.int x)), by simp [hd], rfl⟩
    rw [filt_snoc]
    have hl := len_ok (α := Int) (c := thr n es S B) hd hn
    cases hB : B x with
    | true => simp only [exs_cons, exs_nil, ex_set, ex_sef, ex_unp, ex_par, ex_app, ex_ext, ex_six, ex_exp, ex_ret, ex_retv, ex_iff, ex_rse, ex_frz, ev_var, ev_cst, ev_glb, ev_bin, ev_neg, ev_cmp, ev_chn, ev_bo, ev_nt, ev_ite, ev_tup, ev_lst, ev_ix, ev_slc, ev_call, ev_b2, ev_isi, evs_nil, evs_cons, evr_nil, evr_cons, evB_one, evB_cons, pk, peek, nth, put, bindL_nil, bindL_cons, bindR_nil, bindR_cons, frzL, dat_v, dat_l, Res.dat_v, Res.dat_l, okb, exb, List.map_cons, List.map_nil, toI_int, toB_bool, bin_add, bin_sub, cmp_lt, cmp_le, cmp_gt, cmp_ge, cmp_eqi, cmp_nei, cmp_in, cmp_nin, b1_int, b1_lenl, b1_lent, b1_tupl, b1_tupt, b1_lstt, b1_lstl, ix_t0, ix_t1, isi_tup, isi_int, isi_nb, ev_b1v, ev_b1x, ev_b1c, ev_b1f, ev_b1b, ev_b1n, ev_b1t, ev_b1l, ev_b1s, if_true, if_false, Bool.false_eq_true, Bool.not_true, Bool.not_false, Bool.true_eq_false, in_tup, mem_dec hx, hB, thr, Bool.false_and, List.append_nil]
    | false =>
      cases hS : S x with
      | true => simp only [exs_cons, exs_nil, ex_set, ex_sef, ex_unp, ex_par, ex_app, ex_ext, ex_six, ex_exp, ex_ret, ex_retv, ex_iff, ex_rse, ex_frz, ev_var, ev_cst, ev_glb, ev_bin, ev_neg, ev_cmp, ev_chn, ev_bo, ev_nt, ev_ite, ev_tup, ev_lst, ev_ix, ev_slc, ev_call, ev_b2, ev_isi, evs_nil, evs_cons, evr_nil, evr_cons, evB_one, evB_cons, pk, peek, nth, put, bindL_nil, bindL_cons, bindR_nil, bindR_cons, frzL, dat_v, dat_l, Res.dat_v, Res.dat_l, okb, exb, List.map_cons, List.map_nil, toI_int, toB_bool, bin_add, bin_sub, cmp_lt, cmp_le, cmp_gt, cmp_ge, cmp_eqi, cmp_nei, cmp_in, cmp_nin, b1_int, b1_lenl, b1_lent, b1_tupl, b1_tupt, b1_lstt, b1_lstl, ix_t0, ix_t1, isi_tup, isi_int, isi_nb, ev_b1v, ev_b1x, ev_b1c, ev_b1f, ev_b1b, ev_b1n, ev_b1t, ev_b1l, ev_b1s, if_true, if_false, Bool.false_eq_true, Bool.not_true, Bool.not_false, Bool.true_eq_false, in_tup, mem_dec hx, hB, hS, thr, Bool.false_and, Bool.and_false, List.append_nil]
      | false =>
        simp only [exs_cons, exs_nil, ex_set, ex_sef, ex_unp, ex_par, ex_app, ex_ext, ex_six, ex_exp, ex_ret, ex_retv, ex_iff, ex_rse, ex_frz, ev_var, ev_cst, ev_glb, ev_bin, ev_neg, ev_cmp, ev_chn, ev_bo, ev_nt, ev_ite, ev_tup, ev_lst, ev_ix, ev_slc, ev_call, ev_b2, ev_isi, evs_nil, evs_cons, evr_nil, evr_cons, evB_one, evB_cons, pk, peek, nth, put, bindL_nil, bindL_cons, bindR_nil, bindR_cons, frzL, dat_v, dat_l, Res.dat_v, Res.dat_l, okb, exb, List.map_cons, List.map_nil, toI_int, toB_bool, bin_add, bin_sub, cmp_lt, cmp_le, cmp_gt, cmp_ge, cmp_eqi, cmp_nei, cmp_in, cmp_nin, b1_int, b1_lenl, b1_lent, b1_tupl, b1_tupt, b1_lstt, b1_lstl, ix_t0, ix_t1, isi_tup, isi_int, isi_nb, ev_b1v, ev_b1x, ev_b1c, ev_b1f, ev_b1b, ev_b1n, ev_b1t, ev_b1l, ev_b1s, if_true, if_false, Bool.false_eq_true, Bool.not_true, Bool.not_false, Bool.true_eq_false, in_tup, mem_dec hx, hB, hS]
        rw [comp_lT (l := st n (adj es x)) (e := fun p => .bool (decide (p ∈ st n B))) ?_ (fun p hp => ?_)]
        · simp only [exs_cons, exs_nil, ex_set, ex_sef, ex_unp, ex_par, ex_app, ex_ext, ex_six, ex_exp, ex_ret, ex_retv, ex_iff, ex_rse, ex_frz, ev_var, ev_cst, ev_glb, ev_bin, ev_neg, ev_cmp, ev_chn, ev_bo, ev_nt, ev_ite, ev_tup, ev_lst, ev_ix, ev_slc, ev_call, ev_b2, ev_isi, evs_nil, evs_cons, evr_nil, evr_cons, evB_one, evB_cons, pk, peek, nth, put, bindL_nil, bindL_cons, bindR_nil, bindR_cons, frzL, dat_v, dat_l, Res.dat_v, Res.dat_l, okb, exb, List.map_cons, List.map_nil, toI_int, toB_bool, bin_add, bin_sub, cmp_lt, cmp_le, cmp_gt, cmp_ge, cmp_eqi, cmp_nei, cmp_in, cmp_nin, b1_int, b1_lenl, b1_lent, b1_tupl, b1_tupt, b1_lstt, b1_lstl, ix_t0, ix_t1, isi_tup, isi_int, isi_nb, ev_b1v, ev_b1x, ev_b1c, ev_b1f, ev_b1b, ev_b1n, ev_b1t, ev_b1l, ev_b1s, if_true, if_false, Bool.false_eq_true, Bool.not_true, Bool.not_false, Bool.true_eq_false, b1_any, any_nb]
          cases hN : nb n es B x with
          | true => simp only [exs_cons, exs_nil, ex_set, ex_sef, ex_unp, ex_par, ex_app, ex_ext, ex_six, ex_exp, ex_ret, ex_retv, ex_iff, ex_rse, ex_frz, ev_var, ev_cst, ev_glb, ev_bin, ev_neg, ev_cmp, ev_chn, ev_bo, ev_nt, ev_ite, ev_tup, ev_lst, ev_ix, ev_slc, ev_call, ev_b2, ev_isi, evs_nil, evs_cons, evr_nil, evr_cons, evB_one, evB_cons, pk, peek, nth, put, bindL_nil, bindL_cons, bindR_nil, bindR_cons, frzL, dat_v, dat_l, Res.dat_v, Res.dat_l, okb, exb, List.map_cons, List.map_nil, toI_int, toB_bool, bin_add, bin_sub, cmp_lt, cmp_le, cmp_gt, cmp_ge, cmp_eqi, cmp_nei, cmp_in, cmp_nin, b1_int, b1_lenl, b1_lent, b1_tupl, b1_tupt, b1_lstt, b1_lstl, ix_t0, ix_t1, isi_tup, isi_int, isi_nb, ev_b1v, ev_b1x, ev_b1c, ev_b1f, ev_b1b, ev_b1n, ev_b1t, ev_b1l, ev_b1s, if_true, if_false, Bool.false_eq_true, Bool.not_true, Bool.not_false, Bool.true_eq_false, thr, hB, hS, hN, Bool.and_self, hl, ofI_snoc]
          | false => simp only [exs_cons, exs_nil, ex_set, ex_sef, ex_unp, ex_par, ex_app, ex_ext, ex_six, ex_exp, ex_ret, ex_retv, ex_iff, ex_rse, ex_frz, ev_var, ev_cst, ev_glb, ev_bin, ev_neg, ev_cmp, ev_chn, ev_bo, ev_nt, ev_ite, ev_tup, ev_lst, ev_ix, ev_slc, ev_call, ev_b2, ev_isi, evs_nil, evs_cons, evr_nil, evr_cons, evB_one, evB_cons, pk, peek, nth, put, bindL_nil, bindL_cons, bindR_nil, bindR_cons, frzL, dat_v, dat_l, Res.dat_v, Res.dat_l, okb, exb, List.map_cons, List.map_nil, toI_int, toB_bool, bin_add, bin_sub, cmp_lt, cmp_le, cmp_gt, cmp_ge, cmp_eqi, cmp_nei, cmp_in, cmp_nin, b1_int, b1_lenl, b1_lent, b1_tupl, b1_tupt, b1_lstt, b1_lstl, ix_t0, ix_t1, isi_tup, isi_int, isi_nb, ev_b1v, ev_b1x, ev_b1c, ev_b1f, ev_b1b, ev_b1n, ev_b1t, ev_b1l, ev_b1s, if_true, if_false, Bool.false_eq_true, Bool.not_true, Bool.not_false, Bool.true_eq_false, thr, hB, hS, hN, Bool.and_false, List.append_nil]
        · show (dat (ev _ _ _ _)).bind items = _
          simp only [exs_cons, exs_nil, ex_set, ex_sef, ex_unp, ex_par, ex_app, ex_ext, ex_six, ex_exp, ex_ret, ex_retv, ex_iff, ex_rse, ex_frz, ev_var, ev_cst, ev_glb, ev_bin, ev_neg, ev_cmp, ev_chn, ev_bo, ev_nt, ev_ite, ev_tup, ev_lst, ev_ix, ev_slc, ev_call, ev_b2, ev_isi, evs_nil, evs_cons, evr_nil, evr_cons, evB_one, evB_cons, pk, peek, nth, put, bindL_nil, bindL_cons, bindR_nil, bindR_cons, frzL, dat_v, dat_l, Res.dat_v, Res.dat_l, okb, exb, List.map_cons, List.map_nil, toI_int, toB_bool, bin_add, bin_sub, cmp_lt, cmp_le, cmp_gt, cmp_ge, cmp_eqi, cmp_nei, cmp_in, cmp_nin, b1_int, b1_lenl, b1_lent, b1_tupl, b1_tupt, b1_lstt, b1_lstl, ix_t0, ix_t1, isi_tup, isi_int, isi_nb, ev_b1v, ev_b1x, ev_b1c, ev_b1f, ev_b1b, ev_b1n, ev_b1t, ev_b1l, ev_b1s, if_true, if_false, Bool.false_eq_true, Bool.not_true, Bool.not_false, Bool.true_eq_false, beside_ok t.toLooks w hx]
          rfl
        · simp only [exs_cons, exs_nil, ex_set, ex_sef, ex_unp, ex_par, ex_app, ex_ext, ex_six, ex_exp, ex_ret, ex_retv, ex_iff, ex_rse, ex_frz, ev_var, ev_cst, ev_glb, ev_bin, ev_neg, ev_cmp, ev_chn, ev_bo, ev_nt, ev_ite, ev_tup, ev_lst, ev_ix, ev_slc, ev_call, ev_b2, ev_isi, evs_nil, evs_cons, evr_nil, evr_cons, evB_one, evB_cons, pk, peek, nth, put, bindL_nil, bindL_cons, bindR_nil, bindR_cons, frzL, dat_v, dat_l, Res.dat_v, Res.dat_l, okb, exb, List.map_cons, List.map_nil, toI_int, toB_bool, bin_add, bin_sub, cmp_lt, cmp_le, cmp_gt, cmp_ge, cmp_eqi, cmp_nei, cmp_in, cmp_nin, b1_int, b1_lenl, b1_lent, b1_tupl, b1_tupt, b1_lstt, b1_lstl, ix_t0, ix_t1, isi_tup, isi_int, isi_nb, ev_b1v, ev_b1x, ev_b1c, ev_b1f, ev_b1b, ev_b1n, ev_b1t, ev_b1l, ev_b1s, if_true, if_false, Bool.false_eq_true, Bool.not_true, Bool.not_false, Bool.true_eq_false, in_tup]
  · rintro r ⟨d, j, hd, rfl⟩
    rw [List.append_nil] at hd
    subst hd
    simp only [exs_cons, exs_nil, ex_set, ex_sef, ex_unp, ex_par, ex_app, ex_ext, ex_six, ex_exp, ex_ret, ex_retv, ex_iff, ex_rse, ex_frz, ev_var, ev_cst, ev_glb, ev_bin, ev_neg, ev_cmp, ev_chn, ev_bo, ev_nt, ev_ite, ev_tup, ev_lst, ev_ix, ev_slc, ev_call, ev_b2, ev_isi, evs_nil, evs_cons, evr_nil, evr_cons, evB_one, evB_cons, pk, peek, nth, put, bindL_nil, bindL_cons, bindR_nil, bindR_cons, frzL, dat_v, dat_l, Res.dat_v, Res.dat_l, okb, exb, List.map_cons, List.map_nil, toI_int, toB_bool, bin_add, bin_sub, cmp_lt, cmp_le, cmp_gt, cmp_ge, cmp_eqi, cmp_nei, cmp_in, cmp_nin, b1_int, b1_lenl, b1_lent, b1_tupl, b1_tupt, b1_lstt, b1_lstl, ix_t0, ix_t1, isi_tup, isi_int, isi_nb, ev_b1v, ev_b1x, ev_b1c, ev_b1f, ev_b1b, ev_b1n, ev_b1t, ev_b1l, ev_b1s, if_true, if_false, Bool.false_eq_true, Bool.not_true, Bool.not_false, Bool.true_eq_false]
end
end HF

set_option Elab.async false
set_option linter.all false
set_option maxRecDepth 100000
set_option maxHeartbeats 4000000
/-! ### GB: the turns in which places burn -/
namespace HF
open PySem
theorem rg_at {n k : Nat} : (rg n)[k]? = if k < n then some (k : Int) else none := by
  unfold rg
  rw [List.getElem?_map]
  by_cases h : k < n
  · rw [List.getElem?_range h, if_pos h]
    rfl
  · rw [if_neg h, List.getElem?_eq_none (by simp; omega)]
    rfl
theorem ixOf_rg {n : Nat} {f : Int → PyData} {i : Int} (h : In n i) : ixOf ((rg n).map f).length i = some i.toNat := by
  unfold ixOf
  rw [List.length_map, rg_length, if_pos h.1, if_pos h.2]
theorem set_rg {n : Nat} {f : Int → PyData} {i : Int} {d : PyData} (h : In n i) : setNth ((rg n).map f) i.toNat d = (rg n).map fun p => if p = i then d else f p := by
  rw [setNth_eq]
  refine List.ext_getElem? fun k => ?_
  rw [List.getElem?_set, List.getElem?_map, List.getElem?_map, rg_at, List.length_map, rg_length]
  by_cases hk : k < n
  · rw [if_pos hk]
    by_cases e : i.toNat = k
    · rw [if_pos e, if_pos (by omega)]
      simp only [Option.map_some]
      rw [if_pos (by omega)]
    · rw [if_neg e]
      simp only [Option.map_some]
      rw [if_neg (by omega)]
  · rw [if_neg hk]
    by_cases e : i.toNat = k
    · rw [if_pos e, if_neg (by omega)]
      rfl
    · rw [if_neg e]
      rfl
def td (o : Option Nat) : PyData := match o with
  | none => .none
  | some k => .int k
section
variable {n : Nat} {es : List (Int × Int)} {S B : Int → Bool}
theorem thr_iff {q : Int} : thr n es S B q = true ↔ B q = false ∧ S q = false ∧ nb n es B q = true := by
  unfold thr
  rw [Bool.and_eq_true, Bool.and_eq_true, Bool.not_eq_true', Bool.not_eq_true']
theorem nx_thr (q : Int) : nx n es S B q = (B q || thr n es S B q) := by
  unfold nx thr
  cases B q <;> simp
theorem thr_still : st n (thr n es S B) = [] ↔ Still n es S B := by
  rw [st_nil]
  constructor
  · intro h p hp
    rw [nx_thr, h p hp.1 hp.2, Bool.or_false]
  · intro h p h0 h1
    have q := h p ⟨h0, h1⟩
    rw [nx_thr] at q
    cases hB : B p with
    | true => unfold thr; rw [hB]; rfl
    | false => rw [hB, Bool.false_or] at q; exact q
def ftk (n : Nat) (es : List (Int × Int)) (S B : Int → Bool) (k : Nat) (p : Int) : Option Nat := (List.range (k + 1)).find? fun i => bt n es S B i p
theorem ftk_zero (p : Int) : td (ftk n es S B 0 p) = if B p then .int 0 else .none := by
  unfold ftk
  have e : bt n es S B 0 p = B p := rfl
  cases hB : B p with
  | true => simp [e, hB, td]
  | false => simp [e, hB, td]
theorem ftk_succ (k : Nat) (p : Int) : td (ftk n es S B (k + 1) p) = if thr n es S (bt n es S B k) p then .int (k + 1 : Nat) else td (ftk n es S B k p) := by
  have e : ftk n es S B (k + 1) p = (ftk n es S B k p).or (if bt n es S B (k + 1) p then some (k + 1) else none) := by
    unfold ftk
    rw [List.range_succ, List.find?_append]
    congr 1
    cases h : bt n es S B (k + 1) p <;> simp [h]
  rw [e]
  have e2 : bt n es S B (k + 1) p = (bt n es S B k p || thr n es S (bt n es S B k) p) := nx_thr p
  cases hT : thr n es S (bt n es S B k) p with
  | true =>
    have hb := (thr_iff.mp hT).1
    have q : ftk n es S B k p = none := by
      unfold ftk
      rw [List.find?_range_eq_none]
      intro j hj
      cases hj2 : bt n es S B j p with
      | false => rfl
      | true => rw [bt_mono (by omega) hj2] at hb; cases hb
    rw [q, e2, hT, Bool.or_true]
    rfl
  | false =>
    cases q : ftk n es S B k p with
    | some j => rfl
    | none =>
      have hb : bt n es S B k p = false := by
        unfold ftk at q
        rw [List.find?_range_eq_none] at q
        have := q k (by omega)
        simpa using this
      rw [e2, hb, hT]
      rfl
theorem ftk_end {k : Nat} (hn : n ≤ 7) (hk : k ≤ n) (hs : Still n es S (bt n es S B k)) {p : Int} (hp : In n p) : ftk n es S B k p = ft n es S B p := by
  cases q : ft n es S B p with
  | none =>
    unfold ftk
    rw [List.find?_range_eq_none]
    intro j hj
    rw [ft_none.mp q j (by omega)]
    rfl
  | some j =>
    obtain ⟨h1, h2, h3⟩ := ft_some.mp q
    have hj : j ≤ k := Classical.byContradiction fun hj => by
      rw [still_later hs (by omega) p hp] at h2
      rw [h3 k (by omega)] at h2
      cases h2
    unfold ftk
    rw [List.find?_range_eq_some]
    exact ⟨h2, List.mem_range.mpr (by omega), fun i hi => by rw [h3 i hi]; rfl⟩
end
/-- what the turns are, as a list -/
def tl (n : Nat) (es : List (Int × Int)) (S B : Int → Bool) : List PyData := (rg n).map fun p => td (ft n es S B p)
structure Times (T : List Fn) (G : List PyData) : Prop extends Stands T G where
  f72 : nthF T 72 = some u_times_of
  f73 : nthF T 73 = some u_burn_times
section
variable {T : List Fn} {G : List PyData} {n : Nat} {es : List (Int × Int)} {B S : Int → Bool}
theorem spread_list : isort ltI (st n B ++ st n (thr n es S B)) = st n (nx n es S B) := by
  refine isort_st ?_ fun x => ?_
  · rw [List.nodup_append]
    refine ⟨(st_sorted n _).imp fun h => by omega, (st_sorted n _).imp fun h => by omega, fun a ha b hb e => ?_⟩
    subst e
    have h1 := (mem_st.mp ha).2
    have h2 := (thr_iff.mp (mem_st.mp hb).2).1
    rw [h1] at h2
    cases h2
  · rw [List.mem_append, mem_st, mem_st, nx_thr, Bool.or_eq_true]
    constructor
    · rintro (⟨h1, h2⟩ | ⟨h1, h2⟩)
      · exact ⟨h1, .inl h2⟩
      · exact ⟨h1, .inr h2⟩
    · rintro ⟨h1, h2 | h2⟩
      · exact .inl ⟨h1, h2⟩
      · exact .inr ⟨h1, h2⟩
theorem spread_once_ok (t : Stands T G) (w : WF n es) (m : Nat) : cal T G (m + 3) 44 [.v (wb n es), .v (sd n B S)] = .ok (.v (sd n (nx n es S B) S)) := by
  rw [cal_eq t.f44 rfl]
  show (exs (cal T G (m + 2)) G 1000 u_spread_once.body [some (.v (wb n es)), some (.v (sd n B S))]).bind _ = _
  have h := threatened_ok (B := B) (S := S) t w m
  have hl : (ofI (st n B)).length + (ofI (st n (thr n es S B))).length ≤ 1000 := by
    have h1 := st_len n B
    have h2 := st_len n (thr n es S B)
    have := w.hi
    rw [ofI_len, ofI_len]
    omega
  unfold u_spread_once
  unfold sd at h ⊢
  dsimp only
  simp only [exs_cons, exs_nil, ex_set, ex_sef, ex_unp, ex_par, ex_app, ex_ext, ex_six, ex_exp, ex_ret, ex_retv, ex_iff, ex_rse, ex_frz, ev_var, ev_cst, ev_glb, ev_bin, ev_neg, ev_cmp, ev_chn, ev_bo, ev_nt, ev_ite, ev_tup, ev_lst, ev_ix, ev_slc, ev_call, ev_b2, ev_isi, evs_nil, evs_cons, evr_nil, evr_cons, evB_one, evB_cons, pk, peek, nth, put, bindL_nil, bindL_cons, bindR_nil, bindR_cons, frzL, dat_v, dat_l, Res.dat_v, Res.dat_l, okb, exb, List.map_cons, List.map_nil, toI_int, toB_bool, bin_add, bin_sub, cmp_lt, cmp_le, cmp_gt, cmp_ge, cmp_eqi, cmp_nei, cmp_in, cmp_nin, b1_int, b1_lenl, b1_lent, b1_tupl, b1_tupt, b1_lstt, b1_lstl, ix_t0, ix_t1, isi_tup, isi_int, isi_nb, ev_b1v, ev_b1x, ev_b1c, ev_b1f, ev_b1b, ev_b1n, ev_b1t, ev_b1l, ev_b1s, if_true, if_false, Bool.false_eq_true, Bool.not_true, Bool.not_false, Bool.true_eq_false, h, bin_addl hl, ofI_app, b1_sortI, spread_list]
theorem its_call {cl : Nat → List Res → O Res} {f : Nat} {as : Es} {r : Env} : its cl G (.call f as) r = (dat (ev cl G (.call f as) r)).bind items := rfl
theorem times_of_ok (t : Times T G) (w : WF n es) (m : Nat) : cal T G (m + 4) 72 [.v (wb n es), .v (sd n B S)] = .ok (.l (tl n es S B)) := by
  rw [cal_eq t.f72 rfl]
  show (exs (cal T G (m + 3)) G 1000 u_times_of.body [some (.v (wb n es)), some (.v (sd n B S)), none, none, none]).bind _ = _
  have hn : n ≤ 1000 := by have := w.hi; omega
  have h42 : ∀ k, cal T G (m + 3) 42 [.v (wb n es), .v (sd n (bt n es S B k) S)] = .ok (.l (ofI (st n (thr n es S (bt n es S B k))))) := fun k => threatened_ok t.toStands w (m + 1)
  have h44 : ∀ k, cal T G (m + 3) 44 [.v (wb n es), .v (sd n (bt n es S B k) S)] = .ok (.v (sd n (bt n es S B (k + 1)) S)) := fun k => spread_once_ok t.toStands w m
  unfold u_times_of
  dsimp only
  simp only [exs_cons, exs_nil, ex_set, ex_sef, ex_unp, ex_par, ex_app, ex_ext, ex_six, ex_exp, ex_ret, ex_retv, ex_iff, ex_rse, ex_frz, ev_var, ev_cst, ev_glb, ev_bin, ev_neg, ev_cmp, ev_chn, ev_bo, ev_nt, ev_ite, ev_tup, ev_lst, ev_ix, ev_slc, ev_call, ev_b2, ev_isi, evs_nil, evs_cons, evr_nil, evr_cons, evB_one, evB_cons, pk, peek, nth, put, bindL_nil, bindL_cons, bindR_nil, bindR_cons, frzL, dat_v, dat_l, Res.dat_v, Res.dat_l, okb, exb, List.map_cons, List.map_nil, toI_int, toB_bool, bin_add, bin_sub, cmp_lt, cmp_le, cmp_gt, cmp_ge, cmp_eqi, cmp_nei, cmp_in, cmp_nin, b1_int, b1_lenl, b1_lent, b1_tupl, b1_tupt, b1_lstt, b1_lstl, ix_t0, ix_t1, isi_tup, isi_int, isi_nb, ev_b1v, ev_b1x, ev_b1c, ev_b1f, ev_b1b, ev_b1n, ev_b1t, ev_b1l, ev_b1s, if_true, if_false, Bool.false_eq_true, Bool.not_true, Bool.not_false, Bool.true_eq_false, O.bind_assoc]
  rw [comp_rgT (n := n) (e := fun p => td (ftk n es S B 0 p)) hn (by simp only [exs_cons, exs_nil, ex_set, ex_sef, ex_unp, ex_par, ex_app, ex_ext, ex_six, ex_exp, ex_ret, ex_retv, ex_iff, ex_rse, ex_frz, ev_var, ev_cst, ev_glb, ev_bin, ev_neg, ev_cmp, ev_chn, ev_bo, ev_nt, ev_ite, ev_tup, ev_lst, ev_ix, ev_slc, ev_call, ev_b2, ev_isi, evs_nil, evs_cons, evr_nil, evr_cons, evB_one, evB_cons, pk, peek, nth, put, bindL_nil, bindL_cons, bindR_nil, bindR_cons, frzL, dat_v, dat_l, Res.dat_v, Res.dat_l, okb, exb, List.map_cons, List.map_nil, toI_int, toB_bool, bin_add, bin_sub, cmp_lt, cmp_le, cmp_gt, cmp_ge, cmp_eqi, cmp_nei, cmp_in, cmp_nin, b1_int, b1_lenl, b1_lent, b1_tupl, b1_tupt, b1_lstt, b1_lstl, ix_t0, ix_t1, isi_tup, isi_int, isi_nb, ev_b1v, ev_b1x, ev_b1c, ev_b1f, ev_b1b, ev_b1n, ev_b1t, ev_b1l, ev_b1s, if_true, if_false, Bool.false_eq_true, Bool.not_true, Bool.not_false, Bool.true_eq_false, wb]) (fun x h0 h1 => ?_)]
  · simp only [exs_cons, exs_nil, ex_set, ex_sef, ex_unp, ex_par, ex_app, ex_ext, ex_six, ex_exp, ex_ret, ex_retv, ex_iff, ex_rse, ex_frz, ev_var, ev_cst, ev_glb, ev_bin, ev_neg, ev_cmp, ev_chn, ev_bo, ev_nt, ev_ite, ev_tup, ev_lst, ev_ix, ev_slc, ev_call, ev_b2, ev_isi, evs_nil, evs_cons, evr_nil, evr_cons, evB_one, evB_cons, pk, peek, nth, put, bindL_nil, bindL_cons, bindR_nil, bindR_cons, frzL, dat_v, dat_l, Res.dat_v, Res.dat_l, okb, exb, List.map_cons, List.map_nil, toI_int, toB_bool, bin_add, bin_sub, cmp_lt, cmp_le, cmp_gt, cmp_ge, cmp_eqi, cmp_nei, cmp_in, cmp_nin, b1_int, b1_lenl, b1_lent, b1_tupl, b1_tupt, b1_lstt, b1_lstl, ix_t0, ix_t1, isi_tup, isi_int, isi_nb, ev_b1v, ev_b1x, ev_b1c, ev_b1f, ev_b1b, ev_b1n, ev_b1t, ev_b1l, ev_b1s, if_true, if_false, Bool.false_eq_true, Bool.not_true, Bool.not_false, Bool.true_eq_false]
    refine whl_bind (fun u r => ∃ (k : Nat) (j : Option Res), un n (bt n es S B k) + k ≤ n ∧ u = un n (bt n es S B k) ∧
      r = [some (.v (wb n es)), some (.v (sd n (bt n es S B k) S)), some (.l ((rg n).map fun p => td (ftk n es S B k p))), some (.v (.int k)), j]) (un n B) (by have := un_le (n := n) (B := B); have := w.hi; omega) ⟨0, none, by have := un_le (n := n) (B := B); exact this, rfl, rfl⟩ ?_ ?_
    · rintro u r ⟨k, j, hk, rfl, rfl⟩
      simp only [exs_cons, exs_nil, ex_set, ex_sef, ex_unp, ex_par, ex_app, ex_ext, ex_six, ex_exp, ex_ret, ex_retv, ex_iff, ex_rse, ex_frz, ev_var, ev_cst, ev_glb, ev_bin, ev_neg, ev_cmp, ev_chn, ev_bo, ev_nt, ev_ite, ev_tup, ev_lst, ev_ix, ev_slc, ev_call, ev_b2, ev_isi, evs_nil, evs_cons, evr_nil, evr_cons, evB_one, evB_cons, pk, peek, nth, put, bindL_nil, bindL_cons, bindR_nil, bindR_cons, frzL, dat_v, dat_l, Res.dat_v, Res.dat_l, okb, exb, List.map_cons, List.map_nil, toI_int, toB_bool, bin_add, bin_sub, cmp_lt, cmp_le, cmp_gt, cmp_ge, cmp_eqi, cmp_nei, cmp_in, cmp_nin, b1_int, b1_lenl, b1_lent, b1_tupl, b1_tupt, b1_lstt, b1_lstl, ix_t0, ix_t1, isi_tup, isi_int, isi_nb, ev_b1v, ev_b1x, ev_b1c, ev_b1f, ev_b1b, ev_b1n, ev_b1t, ev_b1l, ev_b1s, if_true, if_false, Bool.false_eq_true, Bool.not_true, Bool.not_false, Bool.true_eq_false, h42, cmp_ne_nil]
      cases hL : st n (thr n es S (bt n es S B k)) with
      | nil => exact .inl rfl
      | cons b l =>
        right
        have hns : ¬ Still n es S (bt n es S B k) := fun z => by rw [thr_still.mpr z] at hL; cases hL
        have hlt := un_lt hns
        refine ⟨rfl, un n (bt n es S B (k + 1)), [some (.v (wb n es)), some (.v (sd n (bt n es S B (k + 1)) S)), some (.l ((rg n).map fun p => td (ftk n es S B (k + 1) p))), some (.v (.int ((k + 1 : Nat) : Int))), some (.v (.int ((b :: l).getLast (by simp))))], hlt, ?_, k + 1, _, ?_, rfl, rfl⟩
        · refine fr_bind (enc := .int) (xs := b :: l) (fun xs r => ∃ (d : List Int) (j : Option Res), d ++ xs = b :: l ∧ (∀ h : d ≠ [], j = some (.v (.int (d.getLast h)))) ∧
            r = [some (.v (wb n es)), some (.v (sd n (bt n es S B k) S)), some (.l ((rg n).map fun p => if p ∈ d then .int ((k + 1 : Nat) : Int) else td (ftk n es S B k p))), some (.v (.int ((k + 1 : Nat) : Int))), j]) ?_ ⟨[], j, rfl, fun h => absurd rfl h, by simp⟩ ?_ ?_
          · rw [its_call]
            simp only [exs_cons, exs_nil, ex_set, ex_sef, ex_unp, ex_par, ex_app, ex_ext, ex_six, ex_exp, ex_ret, ex_retv, ex_iff, ex_rse, ex_frz, ev_var, ev_cst, ev_glb, ev_bin, ev_neg, ev_cmp, ev_chn, ev_bo, ev_nt, ev_ite, ev_tup, ev_lst, ev_ix, ev_slc, ev_call, ev_b2, ev_isi, evs_nil, evs_cons, evr_nil, evr_cons, evB_one, evB_cons, pk, peek, nth, put, bindL_nil, bindL_cons, bindR_nil, bindR_cons, frzL, dat_v, dat_l, Res.dat_v, Res.dat_l, okb, exb, List.map_cons, List.map_nil, toI_int, toB_bool, bin_add, bin_sub, cmp_lt, cmp_le, cmp_gt, cmp_ge, cmp_eqi, cmp_nei, cmp_in, cmp_nin, b1_int, b1_lenl, b1_lent, b1_tupl, b1_tupt, b1_lstt, b1_lstl, ix_t0, ix_t1, isi_tup, isi_int, isi_nb, ev_b1v, ev_b1x, ev_b1c, ev_b1f, ev_b1b, ev_b1n, ev_b1t, ev_b1l, ev_b1s, if_true, if_false, Bool.false_eq_true, Bool.not_true, Bool.not_false, Bool.true_eq_false, h42, hL]
            rfl
          · rintro x xs r ⟨d, j, hd, _, rfl⟩
            have hx : In n x := (mem_st.mp (show x ∈ st n (thr n es S (bt n es S B k)) by rw [hL, ← hd]; simp)).1
            refine ⟨_, _, rfl, ?_, d ++ [x], some (.v (.int x)), by simp [hd], fun h => by simp, rfl⟩
            simp only [exs_cons, exs_nil, ex_set, ex_sef, ex_unp, ex_par, ex_app, ex_ext, ex_six, ex_exp, ex_ret, ex_retv, ex_iff, ex_rse, ex_frz, ev_var, ev_cst, ev_glb, ev_bin, ev_neg, ev_cmp, ev_chn, ev_bo, ev_nt, ev_ite, ev_tup, ev_lst, ev_ix, ev_slc, ev_call, ev_b2, ev_isi, evs_nil, evs_cons, evr_nil, evr_cons, evB_one, evB_cons, pk, peek, nth, put, bindL_nil, bindL_cons, bindR_nil, bindR_cons, frzL, dat_v, dat_l, Res.dat_v, Res.dat_l, okb, exb, List.map_cons, List.map_nil, toI_int, toB_bool, bin_add, bin_sub, cmp_lt, cmp_le, cmp_gt, cmp_ge, cmp_eqi, cmp_nei, cmp_in, cmp_nin, b1_int, b1_lenl, b1_lent, b1_tupl, b1_tupt, b1_lstt, b1_lstl, ix_t0, ix_t1, isi_tup, isi_int, isi_nb, ev_b1v, ev_b1x, ev_b1c, ev_b1f, ev_b1b, ev_b1n, ev_b1t, ev_b1l, ev_b1s, if_true, if_false, Bool.false_eq_true, Bool.not_true, Bool.not_false, Bool.true_eq_false, ixOf_rg hx, set_rg hx, List.mem_append, List.mem_singleton]
            congr 7
            refine List.map_congr_left fun p _ => ?_
            by_cases e : p = x
            · simp [e]
            · simp [e]
          · rintro r ⟨d, j, hd, hj, rfl⟩
            rw [List.append_nil] at hd
            subst hd
            rw [hj (by simp)]
            simp only [exs_cons, exs_nil, ex_set, ex_sef, ex_unp, ex_par, ex_app, ex_ext, ex_six, ex_exp, ex_ret, ex_retv, ex_iff, ex_rse, ex_frz, ev_var, ev_cst, ev_glb, ev_bin, ev_neg, ev_cmp, ev_chn, ev_bo, ev_nt, ev_ite, ev_tup, ev_lst, ev_ix, ev_slc, ev_call, ev_b2, ev_isi, evs_nil, evs_cons, evr_nil, evr_cons, evB_one, evB_cons, pk, peek, nth, put, bindL_nil, bindL_cons, bindR_nil, bindR_cons, frzL, dat_v, dat_l, Res.dat_v, Res.dat_l, okb, exb, List.map_cons, List.map_nil, toI_int, toB_bool, bin_add, bin_sub, cmp_lt, cmp_le, cmp_gt, cmp_ge, cmp_eqi, cmp_nei, cmp_in, cmp_nin, b1_int, b1_lenl, b1_lent, b1_tupl, b1_tupt, b1_lstt, b1_lstl, ix_t0, ix_t1, isi_tup, isi_int, isi_nb, ev_b1v, ev_b1x, ev_b1c, ev_b1f, ev_b1b, ev_b1n, ev_b1t, ev_b1l, ev_b1s, if_true, if_false, Bool.false_eq_true, Bool.not_true, Bool.not_false, Bool.true_eq_false, h44]
            congr 7
            refine List.map_congr_left fun p hp => ?_
            rw [ftk_succ, ← hL]
            by_cases hT : thr n es S (bt n es S B k) p = true
            · rw [if_pos (mem_st.mpr ⟨mem_rg.mp hp, hT⟩), if_pos hT]
            · rw [if_neg (fun z => hT (mem_st.mp z).2), if_neg hT]
        · have : un n (bt n es S B (k + 1)) < un n (bt n es S B k) := hlt
          omega
    · rintro u r ⟨k, j, hk, rfl, rfl⟩ hf
      simp only [exs_cons, exs_nil, ex_set, ex_sef, ex_unp, ex_par, ex_app, ex_ext, ex_six, ex_exp, ex_ret, ex_retv, ex_iff, ex_rse, ex_frz, ev_var, ev_cst, ev_glb, ev_bin, ev_neg, ev_cmp, ev_chn, ev_bo, ev_nt, ev_ite, ev_tup, ev_lst, ev_ix, ev_slc, ev_call, ev_b2, ev_isi, evs_nil, evs_cons, evr_nil, evr_cons, evB_one, evB_cons, pk, peek, nth, put, bindL_nil, bindL_cons, bindR_nil, bindR_cons, frzL, dat_v, dat_l, Res.dat_v, Res.dat_l, okb, exb, List.map_cons, List.map_nil, toI_int, toB_bool, bin_add, bin_sub, cmp_lt, cmp_le, cmp_gt, cmp_ge, cmp_eqi, cmp_nei, cmp_in, cmp_nin, b1_int, b1_lenl, b1_lent, b1_tupl, b1_tupt, b1_lstt, b1_lstl, ix_t0, ix_t1, isi_tup, isi_int, isi_nb, ev_b1v, ev_b1x, ev_b1c, ev_b1f, ev_b1b, ev_b1n, ev_b1t, ev_b1l, ev_b1s, if_true, if_false, Bool.false_eq_true, Bool.not_true, Bool.not_false, Bool.true_eq_false, h42, cmp_ne_nil] at hf
      have hs : Still n es S (bt n es S B k) := by
        refine thr_still.mp ?_
        cases hL : st n (thr n es S (bt n es S B k)) with
        | nil => rfl
        | cons b l => rw [hL] at hf; cases hf
      simp only [exs_cons, exs_nil, ex_set, ex_sef, ex_unp, ex_par, ex_app, ex_ext, ex_six, ex_exp, ex_ret, ex_retv, ex_iff, ex_rse, ex_frz, ev_var, ev_cst, ev_glb, ev_bin, ev_neg, ev_cmp, ev_chn, ev_bo, ev_nt, ev_ite, ev_tup, ev_lst, ev_ix, ev_slc, ev_call, ev_b2, ev_isi, evs_nil, evs_cons, evr_nil, evr_cons, evB_one, evB_cons, pk, peek, nth, put, bindL_nil, bindL_cons, bindR_nil, bindR_cons, frzL, dat_v, dat_l, Res.dat_v, Res.dat_l, okb, exb, List.map_cons, List.map_nil, toI_int, toB_bool, bin_add, bin_sub, cmp_lt, cmp_le, cmp_gt, cmp_ge, cmp_eqi, cmp_nei, cmp_in, cmp_nin, b1_int, b1_lenl, b1_lent, b1_tupl, b1_tupt, b1_lstt, b1_lstl, ix_t0, ix_t1, isi_tup, isi_int, isi_nb, ev_b1v, ev_b1x, ev_b1c, ev_b1f, ev_b1b, ev_b1n, ev_b1t, ev_b1l, ev_b1s, if_true, if_false, Bool.false_eq_true, Bool.not_true, Bool.not_false, Bool.true_eq_false]
      congr 2
      refine List.map_congr_left fun p hp => ?_
      rw [ftk_end w.hi (by omega) hs (mem_rg.mp hp)]
  · have h : decide (x ∈ st n B) = B x := mem_dec ⟨h0, h1⟩
    simp only [ftk_zero]
    cases hB : B x with
    | true => simp only [exs_cons, exs_nil, ex_set, ex_sef, ex_unp, ex_par, ex_app, ex_ext, ex_six, ex_exp, ex_ret, ex_retv, ex_iff, ex_rse, ex_frz, ev_var, ev_cst, ev_glb, ev_bin, ev_neg, ev_cmp, ev_chn, ev_bo, ev_nt, ev_ite, ev_tup, ev_lst, ev_ix, ev_slc, ev_call, ev_b2, ev_isi, evs_nil, evs_cons, evr_nil, evr_cons, evB_one, evB_cons, pk, peek, nth, put, bindL_nil, bindL_cons, bindR_nil, bindR_cons, frzL, dat_v, dat_l, Res.dat_v, Res.dat_l, okb, exb, List.map_cons, List.map_nil, toI_int, toB_bool, bin_add, bin_sub, cmp_lt, cmp_le, cmp_gt, cmp_ge, cmp_eqi, cmp_nei, cmp_in, cmp_nin, b1_int, b1_lenl, b1_lent, b1_tupl, b1_tupt, b1_lstt, b1_lstl, ix_t0, ix_t1, isi_tup, isi_int, isi_nb, ev_b1v, ev_b1x, ev_b1c, ev_b1f, ev_b1b, ev_b1n, ev_b1t, ev_b1l, ev_b1s, if_true, if_false, Bool.false_eq_true, Bool.not_true, Bool.not_false, Bool.true_eq_false, sd, in_tup, h, hB]
    | false => simp only [exs_cons, exs_nil, ex_set, ex_sef, ex_unp, ex_par, ex_app, ex_ext, ex_six, ex_exp, ex_ret, ex_retv, ex_iff, ex_rse, ex_frz, ev_var, ev_cst, ev_glb, ev_bin, ev_neg, ev_cmp, ev_chn, ev_bo, ev_nt, ev_ite, ev_tup, ev_lst, ev_ix, ev_slc, ev_call, ev_b2, ev_isi, evs_nil, evs_cons, evr_nil, evr_cons, evB_one, evB_cons, pk, peek, nth, put, bindL_nil, bindL_cons, bindR_nil, bindR_cons, frzL, dat_v, dat_l, Res.dat_v, Res.dat_l, okb, exb, List.map_cons, List.map_nil, toI_int, toB_bool, bin_add, bin_sub, cmp_lt, cmp_le, cmp_gt, cmp_ge, cmp_eqi, cmp_nei, cmp_in, cmp_nin, b1_int, b1_lenl, b1_lent, b1_tupl, b1_tupt, b1_lstt, b1_lstl, ix_t0, ix_t1, isi_tup, isi_int, isi_nb, ev_b1v, ev_b1x, ev_b1c, ev_b1f, ev_b1b, ev_b1n, ev_b1t, ev_b1l, ev_b1s, if_true, if_false, Bool.false_eq_true, Bool.not_true, Bool.not_false, Bool.true_eq_false, sd, in_tup, h, hB]
theorem burn_times_ok (t : Times T G) (w : WF n es) (dj : ∀ p, In n p → B p = true → S p = false) (m : Nat) : cal T G (m + 7) 73 [.v (wb n es), .v (sd n B S)] = .ok (.l (tl n es S B)) := by
  rw [cal_eq t.f73 rfl]
  show (exs (cal T G (m + 6)) G 1000 u_burn_times.body [some (.v (wb n es)), some (.v (sd n B S))]).bind _ = _
  unfold u_burn_times
  dsimp only
  simp only [exs_cons, exs_nil, ex_set, ex_sef, ex_unp, ex_par, ex_app, ex_ext, ex_six, ex_exp, ex_ret, ex_retv, ex_iff, ex_rse, ex_frz, ev_var, ev_cst, ev_glb, ev_bin, ev_neg, ev_cmp, ev_chn, ev_bo, ev_nt, ev_ite, ev_tup, ev_lst, ev_ix, ev_slc, ev_call, ev_b2, ev_isi, evs_nil, evs_cons, evr_nil, evr_cons, evB_one, evB_cons, pk, peek, nth, put, bindL_nil, bindL_cons, bindR_nil, bindR_cons, frzL, dat_v, dat_l, Res.dat_v, Res.dat_l, okb, exb, List.map_cons, List.map_nil, toI_int, toB_bool, bin_add, bin_sub, cmp_lt, cmp_le, cmp_gt, cmp_ge, cmp_eqi, cmp_nei, cmp_in, cmp_nin, b1_int, b1_lenl, b1_lent, b1_tupl, b1_tupt, b1_lstt, b1_lstl, ix_t0, ix_t1, isi_tup, isi_int, isi_nb, ev_b1v, ev_b1x, ev_b1c, ev_b1f, ev_b1b, ev_b1n, ev_b1t, ev_b1l, ev_b1s, if_true, if_false, Bool.false_eq_true, Bool.not_true, Bool.not_false, Bool.true_eq_false, look_stand_ok t.toStands w dj m, times_of_ok t w (m + 2)]
end
end HF

set_option Elab.async false
set_option linter.all false
set_option maxRecDepth 100000
set_option maxHeartbeats 4000000
/-! ### GC: webs and stands that a law draws -/
namespace HF
open PySem
/-- it tells something of which P holds -/
def Yes {α : Type} (o : O α) (P : α → Prop) : Prop := ∃ a, o = .ok a ∧ P a
theorem Yes.mono {α : Type} {o : O α} {P Q : α → Prop} (h : Yes o P) (q : ∀ a, P a → Q a) : Yes o Q := by
  obtain ⟨a, e, p⟩ := h
  exact ⟨a, e, q a p⟩
theorem Yes.eq {α : Type} {o : O α} {a : α} (h : Yes o fun x => x = a) : o = .ok a := by
  obtain ⟨b, e, rfl⟩ := h
  exact e
theorem yes_ok {α : Type} {a : α} {P : α → Prop} (h : P a) : Yes (.ok a) P := ⟨a, rfl, h⟩
theorem yes_bind {α β : Type} {o : O α} {k : α → O β} {P : α → Prop} {Q : β → Prop} (h : Yes o P) (hk : ∀ a, P a → Yes (k a) Q) : Yes (o.bind k) Q := by
  obtain ⟨a, e, p⟩ := h
  rw [e]
  exact hk a p
theorem fr_yes {α β : Type} {cl : Nat → List Res → O Res} {G : List PyData} {fuel : Nat} {tgt : List Nat} {src : E} {body : Ss} {r : Env} {enc : α → PyData} {xs : List α} {k : Flow → O β} {P : β → Prop} (I : List α → Env → Prop)
    (hi : its cl G src r = .ok (xs.map enc)) (h0 : I xs r) (hs : ∀ x xs r, I (x :: xs) r → ∃ r1, bindT tgt (enc x) r = .ok r1 ∧ Yes (exs cl G fuel body r1) fun fl => ∃ r2, fl = .nx r2 ∧ I xs r2) (hk : ∀ r', I [] r' → Yes (k (.nx r')) P) :
    Yes ((ex cl G fuel (.fr tgt src body) r).bind k) P := by
  obtain ⟨r', e, h⟩ := for_ok (tgt := tgt) (fb := fun r => exs cl G fuel body r) (enc := enc) I xs r h0 fun x xs r h => by
    obtain ⟨r1, e1, fl, e2, r2, rfl, h2⟩ := hs x xs r h
    exact ⟨r1, r2, e1, e2, h2⟩
  rw [ex_fr, hi, O.ok_bind, e]
  exact hk r' h
/-- ties that are well laid, in any order -/
structure Raw (n : Nat) (ps : List (Int × Int)) : Prop where
  nd : ps.Nodup
  tie : ∀ e ∈ ps, 0 ≤ e.1 ∧ e.1 < e.2 ∧ e.2 < n
theorem Raw.sort {n : Nat} {ps : List (Int × Int)} (lo : 1 ≤ n) (hi : n ≤ 7) (h : Raw n ps) : WF n (isort lexP ps) where
  lo := lo
  hi := hi
  tie := fun e he => h.tie e ((isort_perm lexP ps).mem_iff.mp he)
  srt := by
    have s := isort_sorted (lt := lexP) (fun x y => lexP_asym) lexP_tr ps
    have nd : (isort lexP ps).Nodup := (isort_perm lexP ps).nodup_iff.mpr h.nd
    refine (s.and nd).imp fun {a b} z => ?_
    cases q : lexP a b with
    | true => rfl
    | false => exact absurd (lexP_anti a b z.1 q) z.2
theorem Raw.len {n : Nat} {ps : List (Int × Int)} (lo : 1 ≤ n) (hi : n ≤ 7) (h : Raw n ps) : ps.length ≤ 49 := by
  rw [← (isort_perm lexP ps).length_eq]
  exact (h.sort lo hi).len
theorem Raw.snoc {n : Nat} {ps : List (Int × Int)} {e : Int × Int} (h : Raw n ps) (he : e ∉ ps) (ht : 0 ≤ e.1 ∧ e.1 < e.2 ∧ e.2 < n) : Raw n (ps ++ [e]) where
  nd := by
    rw [List.nodup_append]
    refine ⟨h.nd, by simp, fun a ha b hb z => ?_⟩
    rw [List.mem_singleton] at hb
    rw [z, hb] at ha
    exact he ha
  tie := fun a ha => by
    rcases List.mem_append.mp ha with z | z
    · exact h.tie a z
    · rw [List.mem_singleton] at z
      rw [z]
      exact ht
theorem ofP_snoc (a : List (Int × Int)) (x y : Int) : ofP a ++ [.tuple [.int x, .int y]] = ofP (a ++ [(x, y)]) := by simp [ofP]
theorem its_rng2 {cl : Nat → List Res → O Res} {G : List PyData} {a b : E} {r : Env} {i k : Int} (ha : ev cl G a r = .ok (.v (.int i))) (hb : ev cl G b r = .ok (.v (.int k))) (h0 : -1000 < i) (h1 : i < 1000) (h2 : -1000 < k) (h3 : k < 1000) :
    its cl G (.rng2 a b) r = .ok ((List.range (k - i).toNat).map fun j => PyData.int (i + Int.ofNat j)) := by
  show (dat (ev cl G a r)).bind _ = _
  rw [ha, dat_v, O.ok_bind, hb, dat_v, O.ok_bind, toI_int, O.ok_bind, toI_int, O.ok_bind]
  unfold rngD
  rw [if_pos (by refine ⟨by omega, by omega, by omega, by omega, ?_⟩; unfold cap; omega), rngL_rg]
structure Picks (T : List Fn) : Prop where
  f7 : nthF T 7 = some u__law_cell
  f8 : nthF T 8 = some u__law_pick
section
variable {T : List Fn} {G : List PyData} {n : Nat}
theorem pk_ok (t : Picks T) (m : Nat) (ns : List Int) {k c : Int} (hk : 0 ≤ k) (hm : 0 < c) : ∃ x : Int, 0 ≤ x ∧ x < c ∧ cal T G (m + 2) 8 [.v (scr ns), .v (.int k), .v (.int c)] = .ok (.v (.int x)) := pick_ok (c := 7) (p := 8) t.f7 t.f8 m ns k c hk hm
theorem nin_ties (a b : Int) (q : List (Int × Int)) : inD (.tuple [.int a, .int b]) (.list (ofP q)) = .ok (decide ((a, b) ∈ q)) := in_tiesl a b q
theorem law_web_ok (t : Picks T) (h9 : nthF T 9 = some u__law_web) (m : Nat) (ns : List Int) {k : Int} (hk : 0 ≤ k) (lo : 1 ≤ n) (hi : n ≤ 7) : ∃ es, WF n es ∧ cal T G (m + 3) 9 [.v (scr ns), .v (.int k), .v (.int n)] = .ok (.v (wb n es)) := by
  have main : Yes (cal T G (m + 3) 9 [.v (scr ns), .v (.int k), .v (.int n)]) fun x => ∃ es, WF n es ∧ x = .v (wb n es) := by
    rw [cal_eq h9 rfl]
    show Yes ((exs (cal T G (m + 2)) G 1000 u__law_web.body [some (.v (scr ns)), some (.v (.int k)), some (.v (.int n)), none, none, none, none, none, none]).bind _) _
    obtain ⟨way, w0, w1, hw⟩ := pk_ok (G := G) t m ns (k := k) (c := 4) hk (by omega)
    unfold u__law_web
    dsimp only
    simp only [exs_cons, exs_nil, ex_set, ex_sef, ex_unp, ex_par, ex_app, ex_ext, ex_six, ex_exp, ex_ret, ex_retv, ex_iff, ex_rse, ex_frz, ev_var, ev_cst, ev_glb, ev_bin, ev_neg, ev_cmp, ev_chn, ev_bo, ev_nt, ev_ite, ev_tup, ev_lst, ev_ix, ev_slc, ev_call, ev_b2, ev_isi, evs_nil, evs_cons, evr_nil, evr_cons, evB_one, evB_cons, pk, peek, nth, put, bindL_nil, bindL_cons, bindR_nil, bindR_cons, frzL, dat_v, dat_l, Res.dat_v, Res.dat_l, okb, exb, List.map_cons, List.map_nil, toI_int, toB_bool, bin_add, bin_sub, cmp_lt, cmp_le, cmp_gt, cmp_ge, cmp_eqi, cmp_nei, cmp_in, cmp_nin, b1_int, b1_lenl, b1_lent, b1_tupl, b1_tupt, b1_lstt, b1_lstl, ix_t0, ix_t1, isi_tup, isi_int, isi_nb, ev_b1v, ev_b1x, ev_b1c, ev_b1f, ev_b1b, ev_b1n, ev_b1t, ev_b1l, ev_b1s, if_true, if_false, Bool.false_eq_true, Bool.not_true, Bool.not_false, Bool.true_eq_false, hw, O.bind_assoc]
    -- behind both parts
    have fin : ∀ ps : List (Int × Int), Raw n ps → WF n (isort lexP ps) := fun ps h => h.sort lo hi
    have lenc : ∀ ps : List (Int × Int), Raw n ps → (ofP ps).length < cap := fun ps h => by
      have := h.len lo hi
      rw [ofP_len]
      unfold cap
      omega
    refine yes_bind (P := fun fl => ∃ ps j, Raw n ps ∧ fl = .nx [some (.v (scr ns)), some (.v (.int k)), some (.v (.int n)), some (.l (ofP ps)), some (.v (.int way)), j, none, none, none]) ?_ ?_
    · cases decide (way < 3) with
      | false => exact yes_ok ⟨[], none, ⟨List.nodup_nil, by simp⟩, rfl⟩
      | true =>
        dsimp only
        refine fr_yes (enc := fun j : Nat => PyData.int (1 + Int.ofNat j)) (xs := List.range ((n : Int) - 1).toNat) (fun xs r => ∃ (d : List Nat) (ps : List (Int × Int)) (j : Option Res), d ++ xs = List.range ((n : Int) - 1).toNat ∧ Raw n ps ∧ (∀ e ∈ ps, ∃ i ∈ d, e.2 = 1 + Int.ofNat i) ∧
          r = [some (.v (scr ns)), some (.v (.int k)), some (.v (.int n)), some (.l (ofP ps)), some (.v (.int way)), j, none, none, none]) (its_rng2 (by simp only [exs_cons, exs_nil, ex_set, ex_sef, ex_unp, ex_par, ex_app, ex_ext, ex_six, ex_exp, ex_ret, ex_retv, ex_iff, ex_rse, ex_frz, ev_var, ev_cst, ev_glb, ev_bin, ev_neg, ev_cmp, ev_chn, ev_bo, ev_nt, ev_ite, ev_tup, ev_lst, ev_ix, ev_slc, ev_call, ev_b2, ev_isi, evs_nil, evs_cons, evr_nil, evr_cons, evB_one, evB_cons, pk, peek, nth, put, bindL_nil, bindL_cons, bindR_nil, bindR_cons, frzL, dat_v, dat_l, Res.dat_v, Res.dat_l, okb, exb, List.map_cons, List.map_nil, toI_int, toB_bool, bin_add, bin_sub, cmp_lt, cmp_le, cmp_gt, cmp_ge, cmp_eqi, cmp_nei, cmp_in, cmp_nin, b1_int, b1_lenl, b1_lent, b1_tupl, b1_tupt, b1_lstt, b1_lstl, ix_t0, ix_t1, isi_tup, isi_int, isi_nb, ev_b1v, ev_b1x, ev_b1c, ev_b1f, ev_b1b, ev_b1n, ev_b1t, ev_b1l, ev_b1s, if_true, if_false, Bool.false_eq_true, Bool.not_true, Bool.not_false, Bool.true_eq_false]) (by simp only [exs_cons, exs_nil, ex_set, ex_sef, ex_unp, ex_par, ex_app, ex_ext, ex_six, ex_exp, ex_ret, ex_retv, ex_iff, ex_rse, ex_frz, ev_var, ev_cst, ev_glb, ev_bin, ev_neg, ev_cmp, ev_chn, ev_bo, ev_nt, ev_ite, ev_tup, ev_lst, ev_ix, ev_slc, ev_call, ev_b2, ev_isi, evs_nil, evs_cons, evr_nil, evr_cons, evB_one, evB_cons, pk, peek, nth, put, bindL_nil, bindL_cons, bindR_nil, bindR_cons, frzL, dat_v, dat_l, Res.dat_v, Res.dat_l, okb, exb, List.map_cons, List.map_nil, toI_int, toB_bool, bin_add, bin_sub, cmp_lt, cmp_le, cmp_gt, cmp_ge, cmp_eqi, cmp_nei, cmp_in, cmp_nin, b1_int, b1_lenl, b1_lent, b1_tupl, b1_tupt, b1_lstt, b1_lstl, ix_t0, ix_t1, isi_tup, isi_int, isi_nb, ev_b1v, ev_b1x, ev_b1c, ev_b1f, ev_b1b, ev_b1n, ev_b1t, ev_b1l, ev_b1s, if_true, if_false, Bool.false_eq_true, Bool.not_true, Bool.not_false, Bool.true_eq_false]) (by omega) (by omega) (by omega) (by omega)) ⟨[], [], none, rfl, ⟨List.nodup_nil, by simp⟩, by simp, rfl⟩ ?_ ?_
        · rintro x xs r ⟨d, ps, j, hd, hraw, hps, rfl⟩
          have hxm : x ∈ List.range ((n : Int) - 1).toNat := by rw [← hd]; simp
          have hx := List.mem_range.mp hxm
          have hxd : x ∉ d := fun z => by
            have nd := List.nodup_range (n := ((n : Int) - 1).toNat)
            rw [← hd, List.nodup_append] at nd
            exact nd.2.2 x z x (by simp) rfl
          have hof : Int.ofNat x = (x : Int) := rfl
          obtain ⟨y, y0, y1, hy⟩ := pk_ok (G := G) t m ns (k := k + (1 + Int.ofNat x)) (c := 1 + Int.ofNat x) (by omega) (by omega)
          have he : (y, 1 + Int.ofNat x) ∉ ps := fun z => by
            obtain ⟨i, hi, e⟩ := hps _ z
            have e' : (1 : Int) + Int.ofNat x = 1 + Int.ofNat i := e
            have : x = i := by have h1 : Int.ofNat i = (i : Int) := rfl; omega
            exact hxd (this ▸ hi)
          refine ⟨_, rfl, ?_⟩
          simp only [exs_cons, exs_nil, ex_set, ex_sef, ex_unp, ex_par, ex_app, ex_ext, ex_six, ex_exp, ex_ret, ex_retv, ex_iff, ex_rse, ex_frz, ev_var, ev_cst, ev_glb, ev_bin, ev_neg, ev_cmp, ev_chn, ev_bo, ev_nt, ev_ite, ev_tup, ev_lst, ev_ix, ev_slc, ev_call, ev_b2, ev_isi, evs_nil, evs_cons, evr_nil, evr_cons, evB_one, evB_cons, pk, peek, nth, put, bindL_nil, bindL_cons, bindR_nil, bindR_cons, frzL, dat_v, dat_l, Res.dat_v, Res.dat_l, okb, exb, List.map_cons, List.map_nil, toI_int, toB_bool, bin_add, bin_sub, cmp_lt, cmp_le, cmp_gt, cmp_ge, cmp_eqi, cmp_nei, cmp_in, cmp_nin, b1_int, b1_lenl, b1_lent, b1_tupl, b1_tupt, b1_lstt, b1_lstl, ix_t0, ix_t1, isi_tup, isi_int, isi_nb, ev_b1v, ev_b1x, ev_b1c, ev_b1f, ev_b1b, ev_b1n, ev_b1t, ev_b1l, ev_b1s, if_true, if_false, Bool.false_eq_true, Bool.not_true, Bool.not_false, Bool.true_eq_false, hy, lenc ps hraw, ofP_snoc]
          refine yes_ok ⟨_, rfl, d ++ [x], _, _, by simp [hd], hraw.snoc he ⟨y0, y1, by show (1 : Int) + Int.ofNat x < n; omega⟩, ?_, rfl⟩
          intro e hem
          rcases List.mem_append.mp hem with z | z
          · obtain ⟨i, hi, q⟩ := hps e z
            exact ⟨i, List.mem_append.mpr (.inl hi), q⟩
          · rw [List.mem_singleton] at z
            rw [z]
            exact ⟨x, by simp, rfl⟩
        · rintro r ⟨d, ps, j, hd, hraw, hps, rfl⟩
          exact yes_ok ⟨ps, j, hraw, rfl⟩
    · rintro fl ⟨ps, j, hraw, rfl⟩
      simp only [exs_cons, exs_nil, ex_set, ex_sef, ex_unp, ex_par, ex_app, ex_ext, ex_six, ex_exp, ex_ret, ex_retv, ex_iff, ex_rse, ex_frz, ev_var, ev_cst, ev_glb, ev_bin, ev_neg, ev_cmp, ev_chn, ev_bo, ev_nt, ev_ite, ev_tup, ev_lst, ev_ix, ev_slc, ev_call, ev_b2, ev_isi, evs_nil, evs_cons, evr_nil, evr_cons, evB_one, evB_cons, pk, peek, nth, put, bindL_nil, bindL_cons, bindR_nil, bindR_cons, frzL, dat_v, dat_l, Res.dat_v, Res.dat_l, okb, exb, List.map_cons, List.map_nil, toI_int, toB_bool, bin_add, bin_sub, cmp_lt, cmp_le, cmp_gt, cmp_ge, cmp_eqi, cmp_nei, cmp_in, cmp_nin, b1_int, b1_lenl, b1_lent, b1_tupl, b1_tupt, b1_lstt, b1_lstl, ix_t0, ix_t1, isi_tup, isi_int, isi_nb, ev_b1v, ev_b1x, ev_b1c, ev_b1f, ev_b1b, ev_b1n, ev_b1t, ev_b1l, ev_b1s, if_true, if_false, Bool.false_eq_true, Bool.not_true, Bool.not_false, Bool.true_eq_false, O.bind_assoc]
      refine yes_bind (P := fun fl => ∃ ps j j1 j2 j3, Raw n ps ∧ fl = .nx [some (.v (scr ns)), some (.v (.int k)), some (.v (.int n)), some (.l (ofP ps)), some (.v (.int way)), j, j1, j2, j3]) ?_ ?_
      · cases (way == 0) with
        | true => exact yes_ok ⟨ps, _, _, _, _, hraw, rfl⟩
        | false =>
          refine yes_bind (P := fun a => ∃ few : Int, 0 < few ∧ a = .int few) (by
            cases (way == 3) with
            | true => exact yes_ok ⟨3, by omega, rfl⟩
            | false => exact yes_ok ⟨6, by omega, rfl⟩) ?_
          rintro a ⟨few, hf0, rfl⟩
          refine fr_yes (enc := .int) (xs := rg n) (fun xs r => ∃ (ps : List (Int × Int)) (j2 j3 : Option Res), Raw n ps ∧ (∀ x ∈ xs, In n x) ∧
            r = [some (.v (scr ns)), some (.v (.int k)), some (.v (.int n)), some (.l (ofP ps)), some (.v (.int way)), j, some (.v (.int few)), j2, j3]) (its_rng1 (k := n) (by omega) (by simp only [exs_cons, exs_nil, ex_set, ex_sef, ex_unp, ex_par, ex_app, ex_ext, ex_six, ex_exp, ex_ret, ex_retv, ex_iff, ex_rse, ex_frz, ev_var, ev_cst, ev_glb, ev_bin, ev_neg, ev_cmp, ev_chn, ev_bo, ev_nt, ev_ite, ev_tup, ev_lst, ev_ix, ev_slc, ev_call, ev_b2, ev_isi, evs_nil, evs_cons, evr_nil, evr_cons, evB_one, evB_cons, pk, peek, nth, put, bindL_nil, bindL_cons, bindR_nil, bindR_cons, frzL, dat_v, dat_l, Res.dat_v, Res.dat_l, okb, exb, List.map_cons, List.map_nil, toI_int, toB_bool, bin_add, bin_sub, cmp_lt, cmp_le, cmp_gt, cmp_ge, cmp_eqi, cmp_nei, cmp_in, cmp_nin, b1_int, b1_lenl, b1_lent, b1_tupl, b1_tupt, b1_lstt, b1_lstl, ix_t0, ix_t1, isi_tup, isi_int, isi_nb, ev_b1v, ev_b1x, ev_b1c, ev_b1f, ev_b1b, ev_b1n, ev_b1t, ev_b1l, ev_b1s, if_true, if_false, Bool.false_eq_true, Bool.not_true, Bool.not_false, Bool.true_eq_false])) ⟨ps, none, none, hraw, fun x hx => mem_rg.mp hx, rfl⟩ ?_ ?_
          · rintro x xs r ⟨ps, j2, j3, hraw, hin, rfl⟩
            have hx := hin x (by simp)
            refine ⟨_, rfl, ?_⟩
            simp only [exs_cons, exs_nil, ex_set, ex_sef, ex_unp, ex_par, ex_app, ex_ext, ex_six, ex_exp, ex_ret, ex_retv, ex_iff, ex_rse, ex_frz, ev_var, ev_cst, ev_glb, ev_bin, ev_neg, ev_cmp, ev_chn, ev_bo, ev_nt, ev_ite, ev_tup, ev_lst, ev_ix, ev_slc, ev_call, ev_b2, ev_isi, evs_nil, evs_cons, evr_nil, evr_cons, evB_one, evB_cons, pk, peek, nth, put, bindL_nil, bindL_cons, bindR_nil, bindR_cons, frzL, dat_v, dat_l, Res.dat_v, Res.dat_l, okb, exb, List.map_cons, List.map_nil, toI_int, toB_bool, bin_add, bin_sub, cmp_lt, cmp_le, cmp_gt, cmp_ge, cmp_eqi, cmp_nei, cmp_in, cmp_nin, b1_int, b1_lenl, b1_lent, b1_tupl, b1_tupt, b1_lstt, b1_lstl, ix_t0, ix_t1, isi_tup, isi_int, isi_nb, ev_b1v, ev_b1x, ev_b1c, ev_b1f, ev_b1b, ev_b1n, ev_b1t, ev_b1l, ev_b1s, if_true, if_false, Bool.false_eq_true, Bool.not_true, Bool.not_false, Bool.true_eq_false]
            refine fr_yes (enc := fun i : Nat => PyData.int (x + 1 + Int.ofNat i)) (xs := List.range ((n : Int) - (x + 1)).toNat) (fun ys r => ∃ (ps : List (Int × Int)) (j3 : Option Res), Raw n ps ∧ (∀ i ∈ ys, i < ((n : Int) - (x + 1)).toNat) ∧
              r = [some (.v (scr ns)), some (.v (.int k)), some (.v (.int n)), some (.l (ofP ps)), some (.v (.int way)), j, some (.v (.int few)), some (.v (.int x)), j3]) (its_rng2 (by simp only [exs_cons, exs_nil, ex_set, ex_sef, ex_unp, ex_par, ex_app, ex_ext, ex_six, ex_exp, ex_ret, ex_retv, ex_iff, ex_rse, ex_frz, ev_var, ev_cst, ev_glb, ev_bin, ev_neg, ev_cmp, ev_chn, ev_bo, ev_nt, ev_ite, ev_tup, ev_lst, ev_ix, ev_slc, ev_call, ev_b2, ev_isi, evs_nil, evs_cons, evr_nil, evr_cons, evB_one, evB_cons, pk, peek, nth, put, bindL_nil, bindL_cons, bindR_nil, bindR_cons, frzL, dat_v, dat_l, Res.dat_v, Res.dat_l, okb, exb, List.map_cons, List.map_nil, toI_int, toB_bool, bin_add, bin_sub, cmp_lt, cmp_le, cmp_gt, cmp_ge, cmp_eqi, cmp_nei, cmp_in, cmp_nin, b1_int, b1_lenl, b1_lent, b1_tupl, b1_tupt, b1_lstt, b1_lstl, ix_t0, ix_t1, isi_tup, isi_int, isi_nb, ev_b1v, ev_b1x, ev_b1c, ev_b1f, ev_b1b, ev_b1n, ev_b1t, ev_b1l, ev_b1s, if_true, if_false, Bool.false_eq_true, Bool.not_true, Bool.not_false, Bool.true_eq_false]) (by simp only [exs_cons, exs_nil, ex_set, ex_sef, ex_unp, ex_par, ex_app, ex_ext, ex_six, ex_exp, ex_ret, ex_retv, ex_iff, ex_rse, ex_frz, ev_var, ev_cst, ev_glb, ev_bin, ev_neg, ev_cmp, ev_chn, ev_bo, ev_nt, ev_ite, ev_tup, ev_lst, ev_ix, ev_slc, ev_call, ev_b2, ev_isi, evs_nil, evs_cons, evr_nil, evr_cons, evB_one, evB_cons, pk, peek, nth, put, bindL_nil, bindL_cons, bindR_nil, bindR_cons, frzL, dat_v, dat_l, Res.dat_v, Res.dat_l, okb, exb, List.map_cons, List.map_nil, toI_int, toB_bool, bin_add, bin_sub, cmp_lt, cmp_le, cmp_gt, cmp_ge, cmp_eqi, cmp_nei, cmp_in, cmp_nin, b1_int, b1_lenl, b1_lent, b1_tupl, b1_tupt, b1_lstt, b1_lstl, ix_t0, ix_t1, isi_tup, isi_int, isi_nb, ev_b1v, ev_b1x, ev_b1c, ev_b1f, ev_b1b, ev_b1n, ev_b1t, ev_b1l, ev_b1s, if_true, if_false, Bool.false_eq_true, Bool.not_true, Bool.not_false, Bool.true_eq_false]) (by omega) (by omega) (by omega) (by omega)) ⟨ps, _, hraw, fun i hi => List.mem_range.mp hi, rfl⟩ ?_ ?_
            · rintro y ys r ⟨ps, j3, hraw, hys, rfl⟩
              have hy := hys y (by simp)
              have hof : Int.ofNat y = (y : Int) := rfl
              refine ⟨_, rfl, ?_⟩
              obtain ⟨z, z0, z1, hz⟩ := pk_ok (G := G) t m ns (k := k + 10 + 7 * x + (x + 1 + Int.ofNat y)) (c := few) (by omega) hf0
              have p7 : (small64 7 || small64 x) = true := by rw [show small64 7 = true from by decide, Bool.true_or]
              have hys' : ∀ i ∈ ys, i < ((n : Int) - (x + 1)).toNat := fun i hi => hys i (List.mem_cons_of_mem _ hi)
              by_cases hm : (x, x + 1 + Int.ofNat y) ∈ ps
              · simp only [exs_cons, exs_nil, ex_set, ex_sef, ex_unp, ex_par, ex_app, ex_ext, ex_six, ex_exp, ex_ret, ex_retv, ex_iff, ex_rse, ex_frz, ev_var, ev_cst, ev_glb, ev_bin, ev_neg, ev_cmp, ev_chn, ev_bo, ev_nt, ev_ite, ev_tup, ev_lst, ev_ix, ev_slc, ev_call, ev_b2, ev_isi, evs_nil, evs_cons, evr_nil, evr_cons, evB_one, evB_cons, pk, peek, nth, put, bindL_nil, bindL_cons, bindR_nil, bindR_cons, frzL, dat_v, dat_l, Res.dat_v, Res.dat_l, okb, exb, List.map_cons, List.map_nil, toI_int, toB_bool, bin_add, bin_sub, cmp_lt, cmp_le, cmp_gt, cmp_ge, cmp_eqi, cmp_nei, cmp_in, cmp_nin, b1_int, b1_lenl, b1_lent, b1_tupl, b1_tupt, b1_lstt, b1_lstl, ix_t0, ix_t1, isi_tup, isi_int, isi_nb, ev_b1v, ev_b1x, ev_b1c, ev_b1f, ev_b1b, ev_b1n, ev_b1t, ev_b1l, ev_b1s, if_true, if_false, Bool.false_eq_true, Bool.not_true, Bool.not_false, Bool.true_eq_false, nin_ties, hm, decide_true]
                exact yes_ok ⟨_, rfl, ps, _, hraw, hys', rfl⟩
              · simp only [exs_cons, exs_nil, ex_set, ex_sef, ex_unp, ex_par, ex_app, ex_ext, ex_six, ex_exp, ex_ret, ex_retv, ex_iff, ex_rse, ex_frz, ev_var, ev_cst, ev_glb, ev_bin, ev_neg, ev_cmp, ev_chn, ev_bo, ev_nt, ev_ite, ev_tup, ev_lst, ev_ix, ev_slc, ev_call, ev_b2, ev_isi, evs_nil, evs_cons, evr_nil, evr_cons, evB_one, evB_cons, pk, peek, nth, put, bindL_nil, bindL_cons, bindR_nil, bindR_cons, frzL, dat_v, dat_l, Res.dat_v, Res.dat_l, okb, exb, List.map_cons, List.map_nil, toI_int, toB_bool, bin_add, bin_sub, cmp_lt, cmp_le, cmp_gt, cmp_ge, cmp_eqi, cmp_nei, cmp_in, cmp_nin, b1_int, b1_lenl, b1_lent, b1_tupl, b1_tupt, b1_lstt, b1_lstl, ix_t0, ix_t1, isi_tup, isi_int, isi_nb, ev_b1v, ev_b1x, ev_b1c, ev_b1f, ev_b1b, ev_b1n, ev_b1t, ev_b1l, ev_b1s, if_true, if_false, Bool.false_eq_true, Bool.not_true, Bool.not_false, Bool.true_eq_false, nin_ties, hm, decide_false, bin_mul, p7, hz]
                cases (z == 0) with
                | false => exact yes_ok ⟨_, rfl, ps, _, hraw, hys', rfl⟩
                | true =>
                  simp only [exs_cons, exs_nil, ex_set, ex_sef, ex_unp, ex_par, ex_app, ex_ext, ex_six, ex_exp, ex_ret, ex_retv, ex_iff, ex_rse, ex_frz, ev_var, ev_cst, ev_glb, ev_bin, ev_neg, ev_cmp, ev_chn, ev_bo, ev_nt, ev_ite, ev_tup, ev_lst, ev_ix, ev_slc, ev_call, ev_b2, ev_isi, evs_nil, evs_cons, evr_nil, evr_cons, evB_one, evB_cons, pk, peek, nth, put, bindL_nil, bindL_cons, bindR_nil, bindR_cons, frzL, dat_v, dat_l, Res.dat_v, Res.dat_l, okb, exb, List.map_cons, List.map_nil, toI_int, toB_bool, bin_add, bin_sub, cmp_lt, cmp_le, cmp_gt, cmp_ge, cmp_eqi, cmp_nei, cmp_in, cmp_nin, b1_int, b1_lenl, b1_lent, b1_tupl, b1_tupt, b1_lstt, b1_lstl, ix_t0, ix_t1, isi_tup, isi_int, isi_nb, ev_b1v, ev_b1x, ev_b1c, ev_b1f, ev_b1b, ev_b1n, ev_b1t, ev_b1l, ev_b1s, if_true, if_false, Bool.false_eq_true, Bool.not_true, Bool.not_false, Bool.true_eq_false, lenc ps hraw, ofP_snoc]
                  exact yes_ok ⟨_, rfl, _, _, hraw.snoc hm ⟨hx.1, by show x < x + 1 + Int.ofNat y; omega, by show x + 1 + Int.ofNat y < n; omega⟩, hys', rfl⟩
            · rintro r ⟨ps, j3, hraw, _, rfl⟩
              exact yes_ok ⟨_, rfl, ps, _, _, hraw, fun x hx => hin x (List.mem_cons_of_mem _ hx), rfl⟩
          · rintro r ⟨ps, j2, j3, hraw, _, rfl⟩
            exact yes_ok ⟨ps, _, _, _, _, hraw, rfl⟩
      · rintro fl ⟨ps, j, j1, j2, j3, hraw, rfl⟩
        simp only [exs_cons, exs_nil, ex_set, ex_sef, ex_unp, ex_par, ex_app, ex_ext, ex_six, ex_exp, ex_ret, ex_retv, ex_iff, ex_rse, ex_frz, ev_var, ev_cst, ev_glb, ev_bin, ev_neg, ev_cmp, ev_chn, ev_bo, ev_nt, ev_ite, ev_tup, ev_lst, ev_ix, ev_slc, ev_call, ev_b2, ev_isi, evs_nil, evs_cons, evr_nil, evr_cons, evB_one, evB_cons, pk, peek, nth, put, bindL_nil, bindL_cons, bindR_nil, bindR_cons, frzL, dat_v, dat_l, Res.dat_v, Res.dat_l, okb, exb, List.map_cons, List.map_nil, toI_int, toB_bool, bin_add, bin_sub, cmp_lt, cmp_le, cmp_gt, cmp_ge, cmp_eqi, cmp_nei, cmp_in, cmp_nin, b1_int, b1_lenl, b1_lent, b1_tupl, b1_tupt, b1_lstt, b1_lstl, ix_t0, ix_t1, isi_tup, isi_int, isi_nb, ev_b1v, ev_b1x, ev_b1c, ev_b1f, ev_b1b, ev_b1n, ev_b1t, ev_b1l, ev_b1s, if_true, if_false, Bool.false_eq_true, Bool.not_true, Bool.not_false, Bool.true_eq_false, b1_sortP]
        exact yes_ok ⟨_, fin ps hraw, rfl⟩
  obtain ⟨x, e, es, w, rfl⟩ := main
  exact ⟨es, w, e⟩
theorem enm_zip : ∀ (es : List (Int × Int)) (k : Nat), enmL (k : Int) (ofP es) = (es.zipIdx k).map fun q => .tuple [.int (q.2 : Nat), .tuple [.int q.1.1, .int q.1.2]]
  | [], _ => rfl
  | e :: es, k => by
    have h : ofP (e :: es) = .tuple [.int e.1, .int e.2] :: ofP es := rfl
    have ih := enm_zip es (k + 1)
    rw [h, List.zipIdx_cons, List.map_cons]
    simp only [enmL]
    rw [show (k : Int) + 1 = ((k + 1 : Nat) : Int) from by omega, ih]
theorem zip_fst : ∀ (es : List (Int × Int)) (k : Nat), (es.zipIdx k).map (·.1) = es
  | [], _ => rfl
  | e :: es, k => by rw [List.zipIdx_cons, List.map_cons, zip_fst es (k + 1)]
theorem WF.sub {es fs : List (Int × Int)} (w : WF n es) (s : fs.Sublist es) : WF n fs := ⟨w.lo, w.hi, fun e he => w.tie e (s.subset he), w.srt.sublist s⟩
theorem law_loose_ok (t : Picks T) (h9 : nthF T 9 = some u__law_web) (h68 : nthF T 68 = some u__law_loose) (m : Nat) (ns : List Int) {k : Int} (hk : 0 ≤ k) : ∃ n es, WF n es ∧ cal T G (m + 4) 68 [.v (scr ns), .v (.int k)] = .ok (.v (wb n es)) := by
  have main : Yes (cal T G (m + 4) 68 [.v (scr ns), .v (.int k)]) fun x => ∃ n es, WF n es ∧ x = .v (wb n es) := by
    rw [cal_eq h68 rfl]
    show Yes ((exs (cal T G (m + 3)) G 1000 u__law_loose.body [some (.v (scr ns)), some (.v (.int k)), none, none, none]).bind _) _
    obtain ⟨c, c0, c1, hc⟩ := pk_ok (G := G) t (m + 1) ns (k := k + 70) (c := 7) (by omega) (by omega)
    obtain ⟨b, b0, b1, hb⟩ := pk_ok (G := G) t (m + 1) ns (k := k + 71) (c := 2) (by omega) (by omega)
    have e1 : (1 + c : Int) = ((1 + c).toNat : Nat) := by omega
    obtain ⟨es, w, hw⟩ := law_web_ok (G := G) (n := (1 + c).toNat) t h9 m ns hk (by omega) (by omega)
    rw [← e1] at hw
    unfold u__law_loose
    dsimp only
    simp only [exs_cons, exs_nil, ex_set, ex_sef, ex_unp, ex_par, ex_app, ex_ext, ex_six, ex_exp, ex_ret, ex_retv, ex_iff, ex_rse, ex_frz, ev_var, ev_cst, ev_glb, ev_bin, ev_neg, ev_cmp, ev_chn, ev_bo, ev_nt, ev_ite, ev_tup, ev_lst, ev_ix, ev_slc, ev_call, ev_b2, ev_isi, evs_nil, evs_cons, evr_nil, evr_cons, evB_one, evB_cons, pk, peek, nth, put, bindL_nil, bindL_cons, bindR_nil, bindR_cons, frzL, dat_v, dat_l, Res.dat_v, Res.dat_l, okb, exb, List.map_cons, List.map_nil, toI_int, toB_bool, bin_add, bin_sub, cmp_lt, cmp_le, cmp_gt, cmp_ge, cmp_eqi, cmp_nei, cmp_in, cmp_nin, b1_int, b1_lenl, b1_lent, b1_tupl, b1_tupt, b1_lstt, b1_lstl, ix_t0, ix_t1, isi_tup, isi_int, isi_nb, ev_b1v, ev_b1x, ev_b1c, ev_b1f, ev_b1b, ev_b1n, ev_b1t, ev_b1l, ev_b1s, if_true, if_false, Bool.false_eq_true, Bool.not_true, Bool.not_false, Bool.true_eq_false, hc, hw, hb, O.bind_assoc]
    cases (b == 0) with
    | true => exact yes_ok ⟨_, es, w, rfl⟩
    | false =>
      dsimp only
      have hp : ∀ q : (Int × Int) × Nat, ∃ x : Int, cal T G (m + 3) 8 [.v (scr ns), .v (.int (k + 72 + ((q.2 : Nat) : Int))), .v (.int 3)] = .ok (.v (.int x)) := fun q => by
        obtain ⟨x, _, _, hx⟩ := pk_ok (G := G) t (m + 1) ns (k := k + 72 + ((q.2 : Nat) : Int)) (c := 3) (by omega) (by omega)
        exact ⟨x, hx⟩
      obtain ⟨f, hf⟩ := Classical.axiomOfChoice hp
      simp only [exs_cons, exs_nil, ex_set, ex_sef, ex_unp, ex_par, ex_app, ex_ext, ex_six, ex_exp, ex_ret, ex_retv, ex_iff, ex_rse, ex_frz, ev_var, ev_cst, ev_glb, ev_bin, ev_neg, ev_cmp, ev_chn, ev_bo, ev_nt, ev_ite, ev_tup, ev_lst, ev_ix, ev_slc, ev_call, ev_b2, ev_isi, evs_nil, evs_cons, evr_nil, evr_cons, evB_one, evB_cons, pk, peek, nth, put, bindL_nil, bindL_cons, bindR_nil, bindR_cons, frzL, dat_v, dat_l, Res.dat_v, Res.dat_l, okb, exb, List.map_cons, List.map_nil, toI_int, toB_bool, bin_add, bin_sub, cmp_lt, cmp_le, cmp_gt, cmp_ge, cmp_eqi, cmp_nei, cmp_in, cmp_nin, b1_int, b1_lenl, b1_lent, b1_tupl, b1_tupt, b1_lstt, b1_lstl, ix_t0, ix_t1, isi_tup, isi_int, isi_nb, ev_b1v, ev_b1x, ev_b1c, ev_b1f, ev_b1b, ev_b1n, ev_b1t, ev_b1l, ev_b1s, if_true, if_false, Bool.false_eq_true, Bool.not_true, Bool.not_false, Bool.true_eq_false, wb]
      rw [ev_comp (xs := es.zipIdx 0) (enc := fun q => .tuple [.int (q.2 : Nat), .tuple [.int q.1.1, .int q.1.2]]) (fun q => [some (.v (scr ns)), some (.v (.int k)), some (.v (.tuple [.int ((1 + c).toNat : Nat), .tuple (ofP es)])), some (.v (.int (q.2 : Nat))), some (.v (.tuple [.int q.1.1, .int q.1.2]))])
        (fun q => decide (0 < f q)) (fun q => .tuple [.int q.1.1, .int q.1.2]) ?_ (fun q _ => rfl) (fun q _ => ?_) (fun q _ _ => ?_)]
      · simp only [exs_cons, exs_nil, ex_set, ex_sef, ex_unp, ex_par, ex_app, ex_ext, ex_six, ex_exp, ex_ret, ex_retv, ex_iff, ex_rse, ex_frz, ev_var, ev_cst, ev_glb, ev_bin, ev_neg, ev_cmp, ev_chn, ev_bo, ev_nt, ev_ite, ev_tup, ev_lst, ev_ix, ev_slc, ev_call, ev_b2, ev_isi, evs_nil, evs_cons, evr_nil, evr_cons, evB_one, evB_cons, pk, peek, nth, put, bindL_nil, bindL_cons, bindR_nil, bindR_cons, frzL, dat_v, dat_l, Res.dat_v, Res.dat_l, okb, exb, List.map_cons, List.map_nil, toI_int, toB_bool, bin_add, bin_sub, cmp_lt, cmp_le, cmp_gt, cmp_ge, cmp_eqi, cmp_nei, cmp_in, cmp_nin, b1_int, b1_lenl, b1_lent, b1_tupl, b1_tupt, b1_lstt, b1_lstl, ix_t0, ix_t1, isi_tup, isi_int, isi_nb, ev_b1v, ev_b1x, ev_b1c, ev_b1f, ev_b1b, ev_b1n, ev_b1t, ev_b1l, ev_b1s, if_true, if_false, Bool.false_eq_true, Bool.not_true, Bool.not_false, Bool.true_eq_false]
        refine yes_ok ⟨(1 + c).toNat, ((es.zipIdx 0).filter fun q => decide (0 < f q)).map (·.1), w.sub ?_, ?_⟩
        · have s := (List.filter_sublist (l := es.zipIdx 0) (p := fun q => decide (0 < f q))).map (·.1)
          rw [zip_fst] at s
          exact s
        · simp only [wb, ofP, List.map_map]
          rfl
      · have e : ∀ (cl : Nat → List Res → O Res) (r : Env), srcV cl G (.enm (.ix (.var 2) (.cst (.int 1)))) r = (dat (ev cl G (.ix (.var 2) (.cst (.int 1))) r)).bind tupItems := fun cl r => rfl
        rw [e]
        simp only [exs_cons, exs_nil, ex_set, ex_sef, ex_unp, ex_par, ex_app, ex_ext, ex_six, ex_exp, ex_ret, ex_retv, ex_iff, ex_rse, ex_frz, ev_var, ev_cst, ev_glb, ev_bin, ev_neg, ev_cmp, ev_chn, ev_bo, ev_nt, ev_ite, ev_tup, ev_lst, ev_ix, ev_slc, ev_call, ev_b2, ev_isi, evs_nil, evs_cons, evr_nil, evr_cons, evB_one, evB_cons, pk, peek, nth, put, bindL_nil, bindL_cons, bindR_nil, bindR_cons, frzL, dat_v, dat_l, Res.dat_v, Res.dat_l, okb, exb, List.map_cons, List.map_nil, toI_int, toB_bool, bin_add, bin_sub, cmp_lt, cmp_le, cmp_gt, cmp_ge, cmp_eqi, cmp_nei, cmp_in, cmp_nin, b1_int, b1_lenl, b1_lent, b1_tupl, b1_tupt, b1_lstt, b1_lstl, ix_t0, ix_t1, isi_tup, isi_int, isi_nb, ev_b1v, ev_b1x, ev_b1c, ev_b1f, ev_b1b, ev_b1n, ev_b1t, ev_b1l, ev_b1s, if_true, if_false, Bool.false_eq_true, Bool.not_true, Bool.not_false, Bool.true_eq_false]
        have := enm_zip es 0
        exact congrArg O.ok this
      · simp only [exs_cons, exs_nil, ex_set, ex_sef, ex_unp, ex_par, ex_app, ex_ext, ex_six, ex_exp, ex_ret, ex_retv, ex_iff, ex_rse, ex_frz, ev_var, ev_cst, ev_glb, ev_bin, ev_neg, ev_cmp, ev_chn, ev_bo, ev_nt, ev_ite, ev_tup, ev_lst, ev_ix, ev_slc, ev_call, ev_b2, ev_isi, evs_nil, evs_cons, evr_nil, evr_cons, evB_one, evB_cons, pk, peek, nth, put, bindL_nil, bindL_cons, bindR_nil, bindR_cons, frzL, dat_v, dat_l, Res.dat_v, Res.dat_l, okb, exb, List.map_cons, List.map_nil, toI_int, toB_bool, bin_add, bin_sub, cmp_lt, cmp_le, cmp_gt, cmp_ge, cmp_eqi, cmp_nei, cmp_in, cmp_nin, b1_int, b1_lenl, b1_lent, b1_tupl, b1_tupt, b1_lstt, b1_lstl, ix_t0, ix_t1, isi_tup, isi_int, isi_nb, ev_b1v, ev_b1x, ev_b1c, ev_b1f, ev_b1b, ev_b1n, ev_b1t, ev_b1l, ev_b1s, if_true, if_false, Bool.false_eq_true, Bool.not_true, Bool.not_false, Bool.true_eq_false, hf]
      · simp only [exs_cons, exs_nil, ex_set, ex_sef, ex_unp, ex_par, ex_app, ex_ext, ex_six, ex_exp, ex_ret, ex_retv, ex_iff, ex_rse, ex_frz, ev_var, ev_cst, ev_glb, ev_bin, ev_neg, ev_cmp, ev_chn, ev_bo, ev_nt, ev_ite, ev_tup, ev_lst, ev_ix, ev_slc, ev_call, ev_b2, ev_isi, evs_nil, evs_cons, evr_nil, evr_cons, evB_one, evB_cons, pk, peek, nth, put, bindL_nil, bindL_cons, bindR_nil, bindR_cons, frzL, dat_v, dat_l, Res.dat_v, Res.dat_l, okb, exb, List.map_cons, List.map_nil, toI_int, toB_bool, bin_add, bin_sub, cmp_lt, cmp_le, cmp_gt, cmp_ge, cmp_eqi, cmp_nei, cmp_in, cmp_nin, b1_int, b1_lenl, b1_lent, b1_tupl, b1_tupt, b1_lstt, b1_lstl, ix_t0, ix_t1, isi_tup, isi_int, isi_nb, ev_b1v, ev_b1x, ev_b1c, ev_b1f, ev_b1b, ev_b1n, ev_b1t, ev_b1l, ev_b1s, if_true, if_false, Bool.false_eq_true, Bool.not_true, Bool.not_false, Bool.true_eq_false]
  obtain ⟨x, e, n, es, w, rfl⟩ := main
  exact ⟨n, es, w, e⟩
/-- a stand: what burns and what is saved lie apart -/
structure SF (n : Nat) (B S : Int → Bool) : Prop where
  dj : ∀ p, In n p → B p = true → S p = false
  ne : ∃ p, In n p ∧ B p = true
theorem law_stand_ok (t : Picks T) (h11 : nthF T 11 = some u__law_stand) {es : List (Int × Int)} (w : WF n es) (m : Nat) (ns : List Int) {k : Int} (hk : 0 ≤ k) : ∃ B S, SF n B S ∧ cal T G (m + 3) 11 [.v (scr ns), .v (.int k), .v (wb n es)] = .ok (.v (sd n B S)) := by
  have main : Yes (cal T G (m + 3) 11 [.v (scr ns), .v (.int k), .v (wb n es)]) fun x => ∃ B S, SF n B S ∧ x = .v (sd n B S) := by
    rw [cal_eq h11 rfl]
    show Yes ((exs (cal T G (m + 2)) G 1000 u__law_stand.body [some (.v (scr ns)), some (.v (.int k)), some (.v (wb n es)), none, none, none, none]).bind _) _
    have hlo := w.lo
    have hhi := w.hi
    obtain ⟨p, p0, p1, hp⟩ := pk_ok (G := G) t m ns (k := k) (c := n) hk (by omega)
    unfold u__law_stand wb
    dsimp only
    simp only [exs_cons, exs_nil, ex_set, ex_sef, ex_unp, ex_par, ex_app, ex_ext, ex_six, ex_exp, ex_ret, ex_retv, ex_iff, ex_rse, ex_frz, ev_var, ev_cst, ev_glb, ev_bin, ev_neg, ev_cmp, ev_chn, ev_bo, ev_nt, ev_ite, ev_tup, ev_lst, ev_ix, ev_slc, ev_call, ev_b2, ev_isi, evs_nil, evs_cons, evr_nil, evr_cons, evB_one, evB_cons, pk, peek, nth, put, bindL_nil, bindL_cons, bindR_nil, bindR_cons, frzL, dat_v, dat_l, Res.dat_v, Res.dat_l, okb, exb, List.map_cons, List.map_nil, toI_int, toB_bool, bin_add, bin_sub, cmp_lt, cmp_le, cmp_gt, cmp_ge, cmp_eqi, cmp_nei, cmp_in, cmp_nin, b1_int, b1_lenl, b1_lent, b1_tupl, b1_tupt, b1_lstt, b1_lstl, ix_t0, ix_t1, isi_tup, isi_int, isi_nb, ev_b1v, ev_b1x, ev_b1c, ev_b1f, ev_b1b, ev_b1n, ev_b1t, ev_b1l, ev_b1s, if_true, if_false, Bool.false_eq_true, Bool.not_true, Bool.not_false, Bool.true_eq_false, hp, O.bind_assoc]
    have one : [PyData.int p] = ofI [p] := rfl
    rw [one]
    refine fr_yes (enc := .int) (xs := rg n) (fun xs r => ∃ (d bs ss : List Int) (j1 j2 : Option Res), d ++ xs = rg n ∧ bs.Nodup ∧ (∀ b ∈ bs, b = p ∨ b ∈ d) ∧ p ∈ bs ∧ ss.Pairwise (· < ·) ∧ (∀ s ∈ ss, s ∈ d ∧ s ∉ bs) ∧
      r = [some (.v (scr ns)), some (.v (.int k)), some (.v (.tuple [.int n, .tuple (ofP es)])), j1, some (.l (ofI bs)), some (.l (ofI ss)), j2]) (its_rng1 (k := n) (by omega) (by simp only [exs_cons, exs_nil, ex_set, ex_sef, ex_unp, ex_par, ex_app, ex_ext, ex_six, ex_exp, ex_ret, ex_retv, ex_iff, ex_rse, ex_frz, ev_var, ev_cst, ev_glb, ev_bin, ev_neg, ev_cmp, ev_chn, ev_bo, ev_nt, ev_ite, ev_tup, ev_lst, ev_ix, ev_slc, ev_call, ev_b2, ev_isi, evs_nil, evs_cons, evr_nil, evr_cons, evB_one, evB_cons, pk, peek, nth, put, bindL_nil, bindL_cons, bindR_nil, bindR_cons, frzL, dat_v, dat_l, Res.dat_v, Res.dat_l, okb, exb, List.map_cons, List.map_nil, toI_int, toB_bool, bin_add, bin_sub, cmp_lt, cmp_le, cmp_gt, cmp_ge, cmp_eqi, cmp_nei, cmp_in, cmp_nin, b1_int, b1_lenl, b1_lent, b1_tupl, b1_tupt, b1_lstt, b1_lstl, ix_t0, ix_t1, isi_tup, isi_int, isi_nb, ev_b1v, ev_b1x, ev_b1c, ev_b1f, ev_b1b, ev_b1n, ev_b1t, ev_b1l, ev_b1s, if_true, if_false, Bool.false_eq_true, Bool.not_true, Bool.not_false, Bool.true_eq_false])) ⟨[], [p], [], none, none, rfl, by simp, by simp, by simp, List.Pairwise.nil, by simp, rfl⟩ ?_ ?_
    · rintro x xs r ⟨d, bs, ss, j1, j2, hd, nd, hbs, hpb, hss, hsd, rfl⟩
      have hx : In n x := mem_rg.mp (by rw [← hd]; simp)
      have hdl : d.length ≤ n := by
        have := congrArg List.length hd
        rw [rg_length, List.length_append] at this
        omega
      have rs := rg_sorted n
      rw [← hd, List.pairwise_append] at rs
      have hxd : x ∉ d := fun z => by
        have := rs.2.2 x z x (by simp)
        omega
      obtain ⟨y, y0, y1, hy⟩ := pk_ok (G := G) t m ns (k := k + 1 + x) (c := 9) (by omega) (by omega)
      have hlb : (ofI bs).length < cap := by
        have h1 : (isort ltI bs).length = bs.length := (isort_perm ltI bs).length_eq
        have h2 : isort ltI bs = st n fun x => decide (x ∈ bs) := isort_st nd fun z => by
          rw [decide_eq_true_eq]
          refine ⟨fun hz => ⟨?_, hz⟩, fun hz => hz.2⟩
          rcases hbs z hz with e | e
          · rw [e]; exact ⟨p0, p1⟩
          · exact mem_rg.mp (by rw [← hd]; simp [e])
        have h3 := st_len n fun x => decide (x ∈ bs)
        rw [← h2, h1] at h3
        rw [ofI_len]
        unfold cap
        omega
      have hls : (ofI ss).length < cap := by
        have h2 := st_of (n := n) hss fun z hz => mem_rg.mp (by rw [← hd]; simp [(hsd z hz).1])
        have h3 := st_len n fun x => decide (x ∈ ss)
        rw [← h2] at h3
        rw [ofI_len]
        unfold cap
        omega
      refine ⟨_, rfl, ?_⟩
      have up : ∀ b ∈ bs, b = p ∨ b ∈ d ++ [x] := fun b hb => (hbs b hb).elim .inl fun z => .inr (by simp [z])
      have us : ∀ s ∈ ss, s ∈ d ++ [x] ∧ s ∉ bs := fun s hs => ⟨by simp [(hsd s hs).1], (hsd s hs).2⟩
      by_cases hm : x ∈ bs
      · have e0 : decide (x ∈ bs) = true := decide_eq_true hm
        simp only [exs_cons, exs_nil, ex_set, ex_sef, ex_unp, ex_par, ex_app, ex_ext, ex_six, ex_exp, ex_ret, ex_retv, ex_iff, ex_rse, ex_frz, ev_var, ev_cst, ev_glb, ev_bin, ev_neg, ev_cmp, ev_chn, ev_bo, ev_nt, ev_ite, ev_tup, ev_lst, ev_ix, ev_slc, ev_call, ev_b2, ev_isi, evs_nil, evs_cons, evr_nil, evr_cons, evB_one, evB_cons, pk, peek, nth, put, bindL_nil, bindL_cons, bindR_nil, bindR_cons, frzL, dat_v, dat_l, Res.dat_v, Res.dat_l, okb, exb, List.map_cons, List.map_nil, toI_int, toB_bool, bin_add, bin_sub, cmp_lt, cmp_le, cmp_gt, cmp_ge, cmp_eqi, cmp_nei, cmp_in, cmp_nin, b1_int, b1_lenl, b1_lent, b1_tupl, b1_tupt, b1_lstt, b1_lstl, ix_t0, ix_t1, isi_tup, isi_int, isi_nb, ev_b1v, ev_b1x, ev_b1c, ev_b1f, ev_b1b, ev_b1n, ev_b1t, ev_b1l, ev_b1s, if_true, if_false, Bool.false_eq_true, Bool.not_true, Bool.not_false, Bool.true_eq_false, hy, in_list, e0]
        cases (y == 0) with
        | true =>
          simp only [exs_cons, exs_nil, ex_set, ex_sef, ex_unp, ex_par, ex_app, ex_ext, ex_six, ex_exp, ex_ret, ex_retv, ex_iff, ex_rse, ex_frz, ev_var, ev_cst, ev_glb, ev_bin, ev_neg, ev_cmp, ev_chn, ev_bo, ev_nt, ev_ite, ev_tup, ev_lst, ev_ix, ev_slc, ev_call, ev_b2, ev_isi, evs_nil, evs_cons, evr_nil, evr_cons, evB_one, evB_cons, pk, peek, nth, put, bindL_nil, bindL_cons, bindR_nil, bindR_cons, frzL, dat_v, dat_l, Res.dat_v, Res.dat_l, okb, exb, List.map_cons, List.map_nil, toI_int, toB_bool, bin_add, bin_sub, cmp_lt, cmp_le, cmp_gt, cmp_ge, cmp_eqi, cmp_nei, cmp_in, cmp_nin, b1_int, b1_lenl, b1_lent, b1_tupl, b1_tupt, b1_lstt, b1_lstl, ix_t0, ix_t1, isi_tup, isi_int, isi_nb, ev_b1v, ev_b1x, ev_b1c, ev_b1f, ev_b1b, ev_b1n, ev_b1t, ev_b1l, ev_b1s, if_true, if_false, Bool.false_eq_true, Bool.not_true, Bool.not_false, Bool.true_eq_false]
          cases (y == 1) with
          | true => exact yes_ok ⟨_, rfl, d ++ [x], bs, ss, _, _, by simp [hd], nd, up, hpb, hss, us, rfl⟩
          | false => exact yes_ok ⟨_, rfl, d ++ [x], bs, ss, _, _, by simp [hd], nd, up, hpb, hss, us, rfl⟩
        | false =>
          simp only [exs_cons, exs_nil, ex_set, ex_sef, ex_unp, ex_par, ex_app, ex_ext, ex_six, ex_exp, ex_ret, ex_retv, ex_iff, ex_rse, ex_frz, ev_var, ev_cst, ev_glb, ev_bin, ev_neg, ev_cmp, ev_chn, ev_bo, ev_nt, ev_ite, ev_tup, ev_lst, ev_ix, ev_slc, ev_call, ev_b2, ev_isi, evs_nil, evs_cons, evr_nil, evr_cons, evB_one, evB_cons, pk, peek, nth, put, bindL_nil, bindL_cons, bindR_nil, bindR_cons, frzL, dat_v, dat_l, Res.dat_v, Res.dat_l, okb, exb, List.map_cons, List.map_nil, toI_int, toB_bool, bin_add, bin_sub, cmp_lt, cmp_le, cmp_gt, cmp_ge, cmp_eqi, cmp_nei, cmp_in, cmp_nin, b1_int, b1_lenl, b1_lent, b1_tupl, b1_tupt, b1_lstt, b1_lstl, ix_t0, ix_t1, isi_tup, isi_int, isi_nb, ev_b1v, ev_b1x, ev_b1c, ev_b1f, ev_b1b, ev_b1n, ev_b1t, ev_b1l, ev_b1s, if_true, if_false, Bool.false_eq_true, Bool.not_true, Bool.not_false, Bool.true_eq_false]
          cases (y == 1) with
          | true => exact yes_ok ⟨_, rfl, d ++ [x], bs, ss, _, _, by simp [hd], nd, up, hpb, hss, us, rfl⟩
          | false => exact yes_ok ⟨_, rfl, d ++ [x], bs, ss, _, _, by simp [hd], nd, up, hpb, hss, us, rfl⟩
      · have e0 : decide (x ∈ bs) = false := decide_eq_false hm
        have nd2 : (bs ++ [x]).Nodup := by
          rw [List.nodup_append]
          exact ⟨nd, by simp, fun a ha b hb z => by rw [List.mem_singleton] at hb; rw [z, hb] at ha; exact hm ha⟩
        have srt2 : (ss ++ [x]).Pairwise (· < ·) := by
          rw [List.pairwise_append]
          exact ⟨hss, by simp, fun a ha b hb => by rw [List.mem_singleton] at hb; rw [hb]; exact rs.2.2 a (hsd a ha).1 x (by simp)⟩
        have upx : ∀ b ∈ bs ++ [x], b = p ∨ b ∈ d ++ [x] := fun b hb => by
          rcases List.mem_append.mp hb with z | z
          · exact up b z
          · exact .inr (by simp [List.mem_singleton.mp z])
        have usx : ∀ s ∈ ss, s ∈ d ++ [x] ∧ s ∉ bs ++ [x] := fun s hs => ⟨(us s hs).1, fun z => by
          rcases List.mem_append.mp z with z | z
          · exact (us s hs).2 z
          · rw [List.mem_singleton] at z
            exact hxd (z ▸ (hsd s hs).1)⟩
        have usy : ∀ s ∈ ss ++ [x], s ∈ d ++ [x] ∧ s ∉ bs := fun s hs => by
          rcases List.mem_append.mp hs with z | z
          · exact us s z
          · rw [List.mem_singleton] at z
            exact ⟨by simp [z], by rw [z]; exact hm⟩
        simp only [exs_cons, exs_nil, ex_set, ex_sef, ex_unp, ex_par, ex_app, ex_ext, ex_six, ex_exp, ex_ret, ex_retv, ex_iff, ex_rse, ex_frz, ev_var, ev_cst, ev_glb, ev_bin, ev_neg, ev_cmp, ev_chn, ev_bo, ev_nt, ev_ite, ev_tup, ev_lst, ev_ix, ev_slc, ev_call, ev_b2, ev_isi, evs_nil, evs_cons, evr_nil, evr_cons, evB_one, evB_cons, pk, peek, nth, put, bindL_nil, bindL_cons, bindR_nil, bindR_cons, frzL, dat_v, dat_l, Res.dat_v, Res.dat_l, okb, exb, List.map_cons, List.map_nil, toI_int, toB_bool, bin_add, bin_sub, cmp_lt, cmp_le, cmp_gt, cmp_ge, cmp_eqi, cmp_nei, cmp_in, cmp_nin, b1_int, b1_lenl, b1_lent, b1_tupl, b1_tupt, b1_lstt, b1_lstl, ix_t0, ix_t1, isi_tup, isi_int, isi_nb, ev_b1v, ev_b1x, ev_b1c, ev_b1f, ev_b1b, ev_b1n, ev_b1t, ev_b1l, ev_b1s, if_true, if_false, Bool.false_eq_true, Bool.not_true, Bool.not_false, Bool.true_eq_false, hy, in_list, e0]
        cases (y == 0) with
        | true =>
          simp only [exs_cons, exs_nil, ex_set, ex_sef, ex_unp, ex_par, ex_app, ex_ext, ex_six, ex_exp, ex_ret, ex_retv, ex_iff, ex_rse, ex_frz, ev_var, ev_cst, ev_glb, ev_bin, ev_neg, ev_cmp, ev_chn, ev_bo, ev_nt, ev_ite, ev_tup, ev_lst, ev_ix, ev_slc, ev_call, ev_b2, ev_isi, evs_nil, evs_cons, evr_nil, evr_cons, evB_one, evB_cons, pk, peek, nth, put, bindL_nil, bindL_cons, bindR_nil, bindR_cons, frzL, dat_v, dat_l, Res.dat_v, Res.dat_l, okb, exb, List.map_cons, List.map_nil, toI_int, toB_bool, bin_add, bin_sub, cmp_lt, cmp_le, cmp_gt, cmp_ge, cmp_eqi, cmp_nei, cmp_in, cmp_nin, b1_int, b1_lenl, b1_lent, b1_tupl, b1_tupt, b1_lstt, b1_lstl, ix_t0, ix_t1, isi_tup, isi_int, isi_nb, ev_b1v, ev_b1x, ev_b1c, ev_b1f, ev_b1b, ev_b1n, ev_b1t, ev_b1l, ev_b1s, if_true, if_false, Bool.false_eq_true, Bool.not_true, Bool.not_false, Bool.true_eq_false, hlb, ofI_snoc]
          exact yes_ok ⟨_, rfl, d ++ [x], bs ++ [x], ss, _, _, by simp [hd], nd2, upx, by simp [hpb], hss, usx, rfl⟩
        | false =>
          simp only [exs_cons, exs_nil, ex_set, ex_sef, ex_unp, ex_par, ex_app, ex_ext, ex_six, ex_exp, ex_ret, ex_retv, ex_iff, ex_rse, ex_frz, ev_var, ev_cst, ev_glb, ev_bin, ev_neg, ev_cmp, ev_chn, ev_bo, ev_nt, ev_ite, ev_tup, ev_lst, ev_ix, ev_slc, ev_call, ev_b2, ev_isi, evs_nil, evs_cons, evr_nil, evr_cons, evB_one, evB_cons, pk, peek, nth, put, bindL_nil, bindL_cons, bindR_nil, bindR_cons, frzL, dat_v, dat_l, Res.dat_v, Res.dat_l, okb, exb, List.map_cons, List.map_nil, toI_int, toB_bool, bin_add, bin_sub, cmp_lt, cmp_le, cmp_gt, cmp_ge, cmp_eqi, cmp_nei, cmp_in, cmp_nin, b1_int, b1_lenl, b1_lent, b1_tupl, b1_tupt, b1_lstt, b1_lstl, ix_t0, ix_t1, isi_tup, isi_int, isi_nb, ev_b1v, ev_b1x, ev_b1c, ev_b1f, ev_b1b, ev_b1n, ev_b1t, ev_b1l, ev_b1s, if_true, if_false, Bool.false_eq_true, Bool.not_true, Bool.not_false, Bool.true_eq_false]
          cases (y == 1) with
          | true =>
            simp only [exs_cons, exs_nil, ex_set, ex_sef, ex_unp, ex_par, ex_app, ex_ext, ex_six, ex_exp, ex_ret, ex_retv, ex_iff, ex_rse, ex_frz, ev_var, ev_cst, ev_glb, ev_bin, ev_neg, ev_cmp, ev_chn, ev_bo, ev_nt, ev_ite, ev_tup, ev_lst, ev_ix, ev_slc, ev_call, ev_b2, ev_isi, evs_nil, evs_cons, evr_nil, evr_cons, evB_one, evB_cons, pk, peek, nth, put, bindL_nil, bindL_cons, bindR_nil, bindR_cons, frzL, dat_v, dat_l, Res.dat_v, Res.dat_l, okb, exb, List.map_cons, List.map_nil, toI_int, toB_bool, bin_add, bin_sub, cmp_lt, cmp_le, cmp_gt, cmp_ge, cmp_eqi, cmp_nei, cmp_in, cmp_nin, b1_int, b1_lenl, b1_lent, b1_tupl, b1_tupt, b1_lstt, b1_lstl, ix_t0, ix_t1, isi_tup, isi_int, isi_nb, ev_b1v, ev_b1x, ev_b1c, ev_b1f, ev_b1b, ev_b1n, ev_b1t, ev_b1l, ev_b1s, if_true, if_false, Bool.false_eq_true, Bool.not_true, Bool.not_false, Bool.true_eq_false, hls, ofI_snoc]
            exact yes_ok ⟨_, rfl, d ++ [x], bs, ss ++ [x], _, _, by simp [hd], nd, up, hpb, srt2, usy, rfl⟩
          | false => exact yes_ok ⟨_, rfl, d ++ [x], bs, ss, _, _, by simp [hd], nd, up, hpb, hss, us, rfl⟩
    · rintro r ⟨d, bs, ss, j1, j2, hd, nd, hbs, hpb, hss, hsd, rfl⟩
      rw [List.append_nil] at hd
      subst hd
      have h2 : isort ltI bs = st n fun x => decide (x ∈ bs) := isort_st nd fun z => by
        rw [decide_eq_true_eq]
        refine ⟨fun hz => ⟨?_, hz⟩, fun hz => hz.2⟩
        rcases hbs z hz with e | e
        · rw [e]; exact ⟨p0, p1⟩
        · exact mem_rg.mp e
      have h3 := st_of (n := n) hss fun z hz => mem_rg.mp (hsd z hz).1
      simp only [exs_cons, exs_nil, ex_set, ex_sef, ex_unp, ex_par, ex_app, ex_ext, ex_six, ex_exp, ex_ret, ex_retv, ex_iff, ex_rse, ex_frz, ev_var, ev_cst, ev_glb, ev_bin, ev_neg, ev_cmp, ev_chn, ev_bo, ev_nt, ev_ite, ev_tup, ev_lst, ev_ix, ev_slc, ev_call, ev_b2, ev_isi, evs_nil, evs_cons, evr_nil, evr_cons, evB_one, evB_cons, pk, peek, nth, put, bindL_nil, bindL_cons, bindR_nil, bindR_cons, frzL, dat_v, dat_l, Res.dat_v, Res.dat_l, okb, exb, List.map_cons, List.map_nil, toI_int, toB_bool, bin_add, bin_sub, cmp_lt, cmp_le, cmp_gt, cmp_ge, cmp_eqi, cmp_nei, cmp_in, cmp_nin, b1_int, b1_lenl, b1_lent, b1_tupl, b1_tupt, b1_lstt, b1_lstl, ix_t0, ix_t1, isi_tup, isi_int, isi_nb, ev_b1v, ev_b1x, ev_b1c, ev_b1f, ev_b1b, ev_b1n, ev_b1t, ev_b1l, ev_b1s, if_true, if_false, Bool.false_eq_true, Bool.not_true, Bool.not_false, Bool.true_eq_false, b1_sortI, h2]
      refine yes_ok ⟨fun x => decide (x ∈ bs), fun x => decide (x ∈ ss), ⟨fun q _ hq => ?_, p, ⟨p0, p1⟩, decide_eq_true hpb⟩, ?_⟩
      · exact decide_eq_false fun z => (hsd q z).2 (of_decide_eq_true hq)
      · rw [sd, ← h3]
  obtain ⟨x, e, B, S, h, rfl⟩ := main
  exact ⟨B, S, h, e⟩
end
end HF

set_option Elab.async false
set_option linter.all false
set_option maxRecDepth 100000
set_option maxHeartbeats 4000000
/-! ### GD: a tie more; law k36 -/
namespace HF
open PySem
theorem srcV_ix {cl : Nat → List Res → O Res} {G : List PyData} {a b : E} {r : Env} : srcV cl G (.ix a b) r = (dat (ev cl G (.ix a b) r)).bind items := rfl
theorem srcV_call {cl : Nat → List Res → O Res} {G : List PyData} {f : Nat} {as : Es} {r : Env} : srcV cl G (.call f as) r = (dat (ev cl G (.call f as) r)).bind items := rfl
theorem srcV_var {cl : Nat → List Res → O Res} {G : List PyData} {i : Nat} {r : Env} : srcV cl G (.var i) r = (peek r i).bind items := rfl
theorem ix_wb0 (n : Nat) (es : List (Int × Int)) : ixD (wb n es) (.int 0) = .ok (.int n) := ix_t0 _ _
theorem ix_wb1 (n : Nat) (es : List (Int × Int)) : ixD (wb n es) (.int 1) = .ok (.tuple (ofP es)) := ix_t1 _ _ _
theorem ix_sd0 (n : Nat) (B S : Int → Bool) : ixD (sd n B S) (.int 0) = .ok (.tuple (ofI (st n B))) := ix_t0 _ _
theorem ix_sd1 (n : Nat) (B S : Int → Bool) : ixD (sd n B S) (.int 1) = .ok (.tuple (ofI (st n S))) := ix_t1 _ _ _
def wt (es : List (Int × Int)) (a b : Int) : List (Int × Int) := usort lexP (es ++ [(min a b, max a b)])
section
variable {T : List Fn} {G : List PyData} {n : Nat} {es : List (Int × Int)} {B S : Int → Bool}
theorem mem_wt {a b : Int} {e : Int × Int} : e ∈ wt es a b ↔ e ∈ es ∨ e = (min a b, max a b) := by
  unfold wt
  rw [mem_usort lexP_anti2, List.mem_append, List.mem_singleton]
theorem WF.wt {a b : Int} (w : WF n es) (ha : In n a) (hb : In n b) (hne : a ≠ b) : WF n (wt es a b) where
  lo := w.lo
  hi := w.hi
  tie := fun e he => by
    rcases mem_wt.mp he with h | h
    · exact w.tie e h
    · rw [h]
      show 0 ≤ min a b ∧ min a b < max a b ∧ max a b < n
      omega
  srt := usort_sorted lexP_anti2 lexP_tr2 _
theorem adj_wt {a b : Int} {p q : Int} (h : adj es p q = true) : adj (wt es a b) p q = true := by
  unfold adj at *
  rw [Bool.or_eq_true, decide_eq_true_eq, decide_eq_true_eq] at *
  exact h.imp (fun z => mem_wt.mpr (.inl z)) fun z => mem_wt.mpr (.inl z)
theorem look_place_ok (t : Looks T G) (h23 : nthF T 23 = some u_look_place) {p : Int} (hp : In n p) (m : Nat) : cal T G (m + 2) 23 [.v (wb n es), .v (.int p)] = .ok (.v .none) := by
  rw [cal_eq h23 rfl]
  show (exs (cal T G (m + 1)) G 1000 u_look_place.body [some (.v (wb n es)), some (.v (.int p))]).bind _ = _
  have h1 : p ≤ (n : Int) - 1 := by omega
  unfold u_look_place
  dsimp only
  simp only [exs_cons, exs_nil, ex_set, ex_sef, ex_unp, ex_par, ex_app, ex_ext, ex_six, ex_exp, ex_ret, ex_retv, ex_iff, ex_rse, ex_frz, ev_var, ev_cst, ev_glb, ev_bin, ev_neg, ev_cmp, ev_chn, ev_bo, ev_nt, ev_ite, ev_tup, ev_lst, ev_ix, ev_slc, ev_call, ev_b2, ev_isi, evs_nil, evs_cons, evr_nil, evr_cons, evB_one, evB_cons, pk, peek, nth, put, bindL_nil, bindL_cons, bindR_nil, bindR_cons, frzL, dat_v, dat_l, Res.dat_v, Res.dat_l, okb, exb, List.map_cons, List.map_nil, toI_int, toB_bool, bin_add, bin_sub, cmp_lt, cmp_le, cmp_gt, cmp_ge, cmp_eqi, cmp_nei, cmp_in, cmp_nin, b1_int, b1_lenl, b1_lent, b1_tupl, b1_tupt, b1_lstt, b1_lstl, ix_t0, ix_t1, isi_tup, isi_int, isi_nb, ev_b1v, ev_b1x, ev_b1c, ev_b1f, ev_b1b, ev_b1n, ev_b1t, ev_b1l, ev_b1s, if_true, if_false, Bool.false_eq_true, Bool.not_true, Bool.not_false, Bool.true_eq_false, ix_wb0, whole_in t m hp.1 h1]
theorem min_if (a b : Int) : (if b < a then b else a) = min a b := by split <;> omega
theorem max_if (a b : Int) : (if b > a then b else a) = max a b := by split <;> omega
theorem with_tie_ok (t : Looks T G) (w : WF n es) (h23 : nthF T 23 = some u_look_place) (h32 : nthF T 32 = some u_with_tie) {a b : Int} (ha : In n a) (hb : In n b) (hne : a ≠ b) (m : Nat) :
    cal T G (m + 5) 32 [.v (wb n es), .v (.int a), .v (.int b)] = .ok (.v (wb n (wt es a b))) := by
  rw [cal_eq h32 rfl]
  show (exs (cal T G (m + 4)) G 1000 u_with_tie.body [some (.v (wb n es)), some (.v (.int a)), some (.v (.int b))]).bind _ = _
  have e1 := look_web_ok t w m
  have e2 := look_place_ok (es := es) t h23 ha (m + 2)
  have e3 := look_place_ok (es := es) t h23 hb (m + 2)
  have e4 : (a == b) = false := by simpa using hne
  have hl : (ofP es).length + [PyData.tuple [.int (min a b), .int (max a b)]].length ≤ 1000 := by
    have := w.len
    rw [ofP_len]
    simp only [List.length_cons, List.length_nil]
    omega
  have e5 := b1_ssetP (l := es ++ [(min a b, max a b)]) (by have := w.len; simp only [List.length_append, List.length_cons, List.length_nil]; omega) (fun p hp => by
    have := w.hi
    rcases List.mem_append.mp hp with h | h
    · have := w.tie p h
      omega
    · rw [List.mem_singleton] at h
      rw [h]
      show 0 ≤ min a b ∧ min a b < 64 ∧ 0 ≤ max a b ∧ max a b < 64
      omega)
  unfold u_with_tie
  dsimp only
  simp only [exs_cons, exs_nil, ex_set, ex_sef, ex_unp, ex_par, ex_app, ex_ext, ex_six, ex_exp, ex_ret, ex_retv, ex_iff, ex_rse, ex_frz, ev_var, ev_cst, ev_glb, ev_bin, ev_neg, ev_cmp, ev_chn, ev_bo, ev_nt, ev_ite, ev_tup, ev_lst, ev_ix, ev_slc, ev_call, ev_b2, ev_isi, evs_nil, evs_cons, evr_nil, evr_cons, evB_one, evB_cons, pk, peek, nth, put, bindL_nil, bindL_cons, bindR_nil, bindR_cons, frzL, dat_v, dat_l, Res.dat_v, Res.dat_l, okb, exb, List.map_cons, List.map_nil, toI_int, toB_bool, bin_add, bin_sub, cmp_lt, cmp_le, cmp_gt, cmp_ge, cmp_eqi, cmp_nei, cmp_in, cmp_nin, b1_int, b1_lenl, b1_lent, b1_tupl, b1_tupt, b1_lstt, b1_lstl, ix_t0, ix_t1, isi_tup, isi_int, isi_nb, ev_b1v, ev_b1x, ev_b1c, ev_b1f, ev_b1b, ev_b1n, ev_b1t, ev_b1l, ev_b1s, if_true, if_false, Bool.false_eq_true, Bool.not_true, Bool.not_false, Bool.true_eq_false, e1, e2, e3, e4, ix_wb0, ix_wb1, min_if, max_if, bin_addt hl, ofP_snoc, e5]
  rfl
/-! as numbers -/
def lld (n : Nat) (es : List (Int × Int)) (S B : Int → Bool) : List PyData := (rg n).map fun p => .int (late (ft n es S B p))
theorem lld_ofI : lld n es S B = ofI ((rg n).map fun p => late (ft n es S B p)) := by
  unfold lld ofI
  rw [List.map_map]
  rfl
theorem law_late_ok (h123 : nthF T 123 = some u__law_late) (m : Nat) : cal T G (m + 1) 123 [.v (.list (tl n es S B))] = .ok (.l (lld n es S B)) := by
  rw [cal_eq h123 rfl]
  show (exs (cal T G m) G 1000 u__law_late.body [some (.v (.list (tl n es S B))), none]).bind _ = _
  unfold u__law_late
  dsimp only
  simp only [exs_cons, exs_nil, ex_set, ex_sef, ex_unp, ex_par, ex_app, ex_ext, ex_six, ex_exp, ex_ret, ex_retv, ex_iff, ex_rse, ex_frz, ev_var, ev_cst, ev_glb, ev_bin, ev_neg, ev_cmp, ev_chn, ev_bo, ev_nt, ev_ite, ev_tup, ev_lst, ev_ix, ev_slc, ev_call, ev_b2, ev_isi, evs_nil, evs_cons, evr_nil, evr_cons, evB_one, evB_cons, pk, peek, nth, put, bindL_nil, bindL_cons, bindR_nil, bindR_cons, frzL, dat_v, dat_l, Res.dat_v, Res.dat_l, okb, exb, List.map_cons, List.map_nil, toI_int, toB_bool, bin_add, bin_sub, cmp_lt, cmp_le, cmp_gt, cmp_ge, cmp_eqi, cmp_nei, cmp_in, cmp_nin, b1_int, b1_lenl, b1_lent, b1_tupl, b1_tupt, b1_lstt, b1_lstl, ix_t0, ix_t1, isi_tup, isi_int, isi_nb, ev_b1v, ev_b1x, ev_b1c, ev_b1f, ev_b1b, ev_b1n, ev_b1t, ev_b1l, ev_b1s, if_true, if_false, Bool.false_eq_true, Bool.not_true, Bool.not_false, Bool.true_eq_false]
  rw [ev_comp (xs := rg n) (enc := fun p => td (ft n es S B p)) (fun p => [some (.v (.list (tl n es S B))), some (.v (td (ft n es S B p)))]) (fun _ => true) (fun p => .int (late (ft n es S B p))) (by rfl) (fun p _ => rfl) (fun p _ => by simp only [exs_cons, exs_nil, ex_set, ex_sef, ex_unp, ex_par, ex_app, ex_ext, ex_six, ex_exp, ex_ret, ex_retv, ex_iff, ex_rse, ex_frz, ev_var, ev_cst, ev_glb, ev_bin, ev_neg, ev_cmp, ev_chn, ev_bo, ev_nt, ev_ite, ev_tup, ev_lst, ev_ix, ev_slc, ev_call, ev_b2, ev_isi, evs_nil, evs_cons, evr_nil, evr_cons, evB_one, evB_cons, pk, peek, nth, put, bindL_nil, bindL_cons, bindR_nil, bindR_cons, frzL, dat_v, dat_l, Res.dat_v, Res.dat_l, okb, exb, List.map_cons, List.map_nil, toI_int, toB_bool, bin_add, bin_sub, cmp_lt, cmp_le, cmp_gt, cmp_ge, cmp_eqi, cmp_nei, cmp_in, cmp_nin, b1_int, b1_lenl, b1_lent, b1_tupl, b1_tupt, b1_lstt, b1_lstl, ix_t0, ix_t1, isi_tup, isi_int, isi_nb, ev_b1v, ev_b1x, ev_b1c, ev_b1f, ev_b1b, ev_b1n, ev_b1t, ev_b1l, ev_b1s, if_true, if_false, Bool.false_eq_true, Bool.not_true, Bool.not_false, Bool.true_eq_false]) (fun p _ _ => ?_)]
  · rw [filt_true]
    simp only [exs_cons, exs_nil, ex_set, ex_sef, ex_unp, ex_par, ex_app, ex_ext, ex_six, ex_exp, ex_ret, ex_retv, ex_iff, ex_rse, ex_frz, ev_var, ev_cst, ev_glb, ev_bin, ev_neg, ev_cmp, ev_chn, ev_bo, ev_nt, ev_ite, ev_tup, ev_lst, ev_ix, ev_slc, ev_call, ev_b2, ev_isi, evs_nil, evs_cons, evr_nil, evr_cons, evB_one, evB_cons, pk, peek, nth, put, bindL_nil, bindL_cons, bindR_nil, bindR_cons, frzL, dat_v, dat_l, Res.dat_v, Res.dat_l, okb, exb, List.map_cons, List.map_nil, toI_int, toB_bool, bin_add, bin_sub, cmp_lt, cmp_le, cmp_gt, cmp_ge, cmp_eqi, cmp_nei, cmp_in, cmp_nin, b1_int, b1_lenl, b1_lent, b1_tupl, b1_tupt, b1_lstt, b1_lstl, ix_t0, ix_t1, isi_tup, isi_int, isi_nb, ev_b1v, ev_b1x, ev_b1c, ev_b1f, ev_b1b, ev_b1n, ev_b1t, ev_b1l, ev_b1s, if_true, if_false, Bool.false_eq_true, Bool.not_true, Bool.not_false, Bool.true_eq_false]
    rfl
  · cases ft n es S B p with
    | none => rfl
    | some k => rfl
theorem late_99 (o : Option Nat) (h : ∀ k, o = some k → k < 8) : late o ≤ 99 := by
  cases o with
  | none => exact Int.le_refl _
  | some k =>
    have := h k rfl
    show (k : Int) ≤ 99
    omega
theorem ft_99 (p : Int) : late (ft n es S B p) ≤ 99 := late_99 _ fun k h => (ft_some.mp h).1
end
theorem min_ok {α : Type} {g : α → Int} : ∀ {l : List α}, l ≠ [] → ∃ m, b1D .min (.list (l.map fun b => .int (g b))) = .ok (.v (.int m)) ∧ (∃ b ∈ l, g b = m) ∧ ∀ b ∈ l, m ≤ g b := by
  intro l hl
  have e : (l.map fun b => PyData.int (g b)) = ofI (l.map g) := by unfold ofI; rw [List.map_map]; rfl
  have key : ∀ (l : List Int) (m : Int), (minI m l = m ∨ minI m l ∈ l) ∧ minI m l ≤ m ∧ ∀ b ∈ l, minI m l ≤ b := by
    intro l
    induction l with
    | nil => intro m; exact ⟨.inl rfl, Int.le_refl _, by simp⟩
    | cons x l ih =>
      intro m
      simp only [minI]
      obtain ⟨h1, h2, h3⟩ := ih (if x < m then x else m)
      refine ⟨?_, ?_, ?_⟩
      · rcases h1 with h | h
        · rw [h]
          split
          · exact .inr (by simp)
          · exact .inl rfl
        · exact .inr (List.mem_cons_of_mem _ h)
      · exact Int.le_trans h2 (by split <;> omega)
      · intro b hb
        rcases List.mem_cons.mp hb with z | z
        · rw [z]
          exact Int.le_trans h2 (by split <;> omega)
        · exact h3 b z
  cases l with
  | nil => exact absurd rfl hl
  | cons a l =>
    obtain ⟨h1, h2, h3⟩ := key (l.map g) (g a)
    refine ⟨minI (g a) (l.map g), ?_, ?_, ?_⟩
    · rw [e]
      simp only [b1D, intsD_of, List.map_cons]
    · rcases h1 with h | h
      · exact ⟨a, by simp, h.symm⟩
      · obtain ⟨b, hb, q⟩ := List.mem_map.mp h
        exact ⟨b, List.mem_cons_of_mem _ hb, q⟩
    · intro b hb
      rcases List.mem_cons.mp hb with z | z
      · rw [z]; exact h2
      · exact h3 _ (List.mem_map.mpr ⟨b, z, rfl⟩)
section
variable {T : List Fn} {G : List PyData} {n : Nat} {es : List (Int × Int)} {B S : Int → Bool}
/-- one place more -/
def or1 (B : Int → Bool) (x : Int) : Int → Bool := fun p => B p || decide (p = x)
theorem sort_or1 {x : Int} (hx : In n x) (hB : B x = false) : isort ltI (st n B ++ [x]) = st n (or1 B x) := by
  refine isort_st ?_ fun y => ?_
  · rw [List.nodup_append]
    refine ⟨(st_sorted n _).imp fun h => by omega, by simp, fun a ha b hb e => ?_⟩
    rw [List.mem_singleton] at hb
    rw [e, hb] at ha
    rw [(mem_st.mp ha).2] at hB
    cases hB
  · rw [List.mem_append, mem_st, List.mem_singleton]
    unfold or1
    rw [Bool.or_eq_true, decide_eq_true_eq]
    constructor
    · rintro (h | h)
      · exact ⟨h.1, .inl h.2⟩
      · rw [h]; exact ⟨hx, .inr rfl⟩
    · rintro ⟨h1, h2 | h2⟩
      · exact .inl ⟨h1, h2⟩
      · exact .inr h2
/-- an index into a list of whole numbers -/
theorem ix_ofI {l : List Int} {i : Int} (h0 : 0 ≤ i) (h1 : i < l.length) : ∃ x ∈ l, ixD (.list (ofI l)) (.int i) = .ok (.int x) := by
  have hi : i.toNat < l.length := by omega
  refine ⟨l[i.toNat], List.getElem_mem hi, ?_⟩
  have q : (ofI l)[i.toNat]? = some (.int l[i.toNat]) := by
    unfold ofI
    rw [List.getElem?_map, List.getElem?_eq_getElem hi]
    rfl
  have := at_ok q
  rw [show ((i.toNat : Nat) : Int) = i from by omega] at this
  exact this
theorem mem_bs {x : Int} (hx : In n x) : decide (x ∈ st n B ++ st n S) = (B x || S x) := by
  rw [← mem_dec (B := B) hx, ← mem_dec (B := S) hx, Bool.eq_iff_iff]
  simp only [decide_eq_true_eq, List.mem_append, Bool.or_eq_true]
/-- all fires at once, and one by one -/
theorem late_min {k : Int} (hk : In n k) {m : Int} (h1 : ∃ b ∈ st n B, late (ft n es S (fun p => decide (p = b)) k) = m) (h2 : ∀ b ∈ st n B, m ≤ late (ft n es S (fun p => decide (p = b)) k)) : m = late (ft n es S B k) := by
  have up : ∀ b ∈ st n B, late (ft n es S B k) ≤ late (ft n es S (fun p => decide (p = b)) k) := fun b hb => late_le fun j h => (bt_one j k hk).mpr ⟨b, (mem_st.mp hb).1, (mem_st.mp hb).2, h⟩
  obtain ⟨b0, hb0, e0⟩ := h1
  have lo := up b0 hb0
  rcases late_cases (n := n) (es := es) (S := S) (B := B) k with h | ⟨j, hj, h, hb⟩
  · have := ft_99 (n := n) (es := es) (S := S) (B := fun p => decide (p = b0)) k
    omega
  · obtain ⟨b, hb1, hb2, hb3⟩ := (bt_one j k hk).mp hb
    have q := h2 b (mem_st.mpr ⟨hb1, hb2⟩)
    have := ft_late_le hj hb3
    omega
theorem late_or {x k : Int} : late (ft n es S (or1 B x) k) = min (late (ft n es S B k)) (late (ft n es S (fun p => decide (p = x)) k)) := by
  have a1 : late (ft n es S (or1 B x) k) ≤ late (ft n es S B k) := late_le fun j h => by
    show bt n es S (fun p => B p || decide (p = x)) j k = true
    rw [bt_or, h]
    rfl
  have a2 : late (ft n es S (or1 B x) k) ≤ late (ft n es S (fun p => decide (p = x)) k) := late_le fun j h => by
    show bt n es S (fun p => B p || decide (p = x)) j k = true
    rw [bt_or, h, Bool.or_true]
  rcases late_cases (n := n) (es := es) (S := S) (B := or1 B x) k with h | ⟨j, hj, h, hb⟩
  · have := ft_99 (n := n) (es := es) (S := S) (B := B) k
    have := ft_99 (n := n) (es := es) (S := S) (B := fun p => decide (p = x)) k
    omega
  · have hb' : bt n es S (fun p => B p || decide (p = x)) j k = true := hb
    rw [bt_or, Bool.or_eq_true] at hb'
    rcases hb' with z | z
    · have := ft_late_le hj z
      omega
    · have := ft_late_le hj z
      omega
end
theorem other_ne {n : Nat} {a b : Int} (h1 : 1 < n) (hn : n ≤ 7) (a0 : 0 ≤ a) (a1 : a < n) (b0 : 0 ≤ b) (b1 : b < (n : Int) - 1) : a ≠ (a + 1 + b) % (n : Int) := by
  have h : n = 2 ∨ n = 3 ∨ n = 4 ∨ n = 5 ∨ n = 6 ∨ n = 7 := by omega
  rcases h with rfl | rfl | rfl | rfl | rfl | rfl <;> omega
def law36 : Fn := { pars := 1, slots := 15, body := (.cons (.sef 1 (.call 68 (.cons (.var 0) (.cons (.cst (.int 10)) .nil))))
   (.cons (.sef 2 (.call 11 (.cons (.var 0) (.cons (.cst (.int 200)) (.cons (.var 1) .nil)))))
   (.cons (.sef 3 (.call 123 (.cons (.call 73 (.cons (.var 1) (.cons (.var 2) .nil))) .nil)))
   (.cons (.iff (.cmp .gt (.ix (.var 1) (.cst (.int 0))) (.cst (.int 1))) (.cons (.sef 6 (.call 8 (.cons (.var 0) (.cons (.cst (.int 1)) (.cons (.ix (.var 1) (.cst (.int 0))) .nil)))))
   (.cons (.sef 7 (.bin .mod (.bin .add (.bin .add (.var 6) (.cst (.int 1))) (.call 8 (.cons (.var 0) (.cons (.cst (.int 2)) (.cons (.bin .sub (.ix (.var 1) (.cst (.int 0))) (.cst (.int 1))) .nil))))) (.ix (.var 1) (.cst (.int 0)))))
   (.cons (.sef 8 (.call 123 (.cons (.call 73 (.cons (.call 32 (.cons (.var 1) (.cons (.var 6) (.cons (.var 7) .nil)))) (.cons (.var 2) .nil))) .nil)))
   (.cons (.iff (.cmp .ne (.comp (.var 13) [13] (.rng1 (.ix (.var 1) (.cst (.int 0)))) (.cmp .gt (.ix (.var 8) (.var 13)) (.ix (.var 3) (.var 13)))) (.lst .nil)) (.cons (.ret (.cst (.bool false)))
   .nil) .nil)
   .nil)))) .nil)
   (.cons (.sef 4 (.comp (.var 13) [13] (.rng1 (.ix (.var 1) (.cst (.int 0)))) (.cmp .nin (.var 13) (.bin .add (.ix (.var 2) (.cst (.int 0))) (.ix (.var 2) (.cst (.int 1)))))))
   (.cons (.iff (.cmp .ne (.var 4) (.lst .nil)) (.cons (.sef 9 (.ix (.var 4) (.call 8 (.cons (.var 0) (.cons (.cst (.int 3)) (.cons (.b1 .len (.var 4)) .nil))))))
   (.cons (.sef 10 (.call 123 (.cons (.call 73 (.cons (.var 1) (.cons (.tup (.cons (.b1 .tuple (.b1 .sorted (.bin .add (.ix (.var 2) (.cst (.int 0))) (.tup (.cons (.var 9) .nil))))) (.cons (.ix (.var 2) (.cst (.int 1))) .nil))) .nil))) .nil)))
   (.cons (.sef 11 (.call 123 (.cons (.call 73 (.cons (.var 1) (.cons (.tup (.cons (.tup (.cons (.var 9) .nil)) (.cons (.ix (.var 2) (.cst (.int 1))) .nil))) .nil))) .nil)))
   (.cons (.iff (.cmp .ne (.var 10) (.comp (.b2 false (.ix (.var 3) (.var 13)) (.ix (.var 11) (.var 13))) [13] (.rng1 (.ix (.var 1) (.cst (.int 0)))) (.cst (.bool true)))) (.cons (.ret (.cst (.bool false)))
   .nil) .nil)
   (.cons (.sef 12 (.call 123 (.cons (.call 73 (.cons (.var 1) (.cons (.tup (.cons (.ix (.var 2) (.cst (.int 0))) (.cons (.b1 .tuple (.b1 .sorted (.bin .add (.ix (.var 2) (.cst (.int 1))) (.tup (.cons (.var 9) .nil))))) .nil))) .nil))) .nil)))
   (.cons (.iff (.bo false (.cons (.cmp .ne (.comp (.var 13) [13] (.rng1 (.ix (.var 1) (.cst (.int 0)))) (.cmp .lt (.ix (.var 12) (.var 13)) (.ix (.var 3) (.var 13)))) (.lst .nil)) (.cons (.cmp .ne (.ix (.var 12) (.var 9)) (.cst (.int 99))) .nil))) (.cons (.ret (.cst (.bool false)))
   .nil) .nil)
   .nil)))))) .nil)
   (.cons (.sef 5 (.comp (.call 123 (.cons (.call 73 (.cons (.var 1) (.cons (.tup (.cons (.tup (.cons (.var 9) .nil)) (.cons (.ix (.var 2) (.cst (.int 1))) .nil))) .nil))) .nil)) [9] (.ix (.var 2) (.cst (.int 0))) (.cst (.bool true))))
   (.cons (.ret (.cmp .eq (.var 3) (.comp (.b1 .min (.comp (.ix (.var 14) (.var 13)) [14] (.var 5) (.cst (.bool true)))) [13] (.rng1 (.ix (.var 1) (.cst (.int 0)))) (.cst (.bool true)))))
   .nil)))))))) }
theorem main36 {T : List Fn} {G : List PyData} (t : Times T G) (tp : Picks T) (h9 : nthF T 9 = some u__law_web) (h68 : nthF T 68 = some u__law_loose) (h11 : nthF T 11 = some u__law_stand) (h23 : nthF T 23 = some u_look_place) (h32 : nthF T 32 = some u_with_tie) (h123 : nthF T 123 = some u__law_late)
    (hl : nthF T 127 = some law36) (ns : List Int) : cal T G 20 127 [.v (scr ns)] = .ok (.v (.bool true)) := by
  rw [cal_eq (n := 19) hl rfl]
  show (exs (cal T G 19) G 1000 law36.body [some (.v (scr ns)), none, none, none, none, none, none, none, none, none, none, none, none, none, none]).bind _ = _
  obtain ⟨n, es, w, hw⟩ := law_loose_ok (G := G) tp h9 h68 15 ns (k := 10) (by omega)
  obtain ⟨B, S, sf, hs⟩ := law_stand_ok (G := G) tp h11 w 16 ns (k := 200) (by omega)
  have hw' : cal T G 19 68 [.v (scr ns), .v (.int 10)] = .ok (.v (wb n es)) := hw
  have hs' : cal T G 19 11 [.v (scr ns), .v (.int 200), .v (wb n es)] = .ok (.v (sd n B S)) := hs
  have hlo := w.lo
  have hhi := w.hi
  have hbt : ∀ (fs : List (Int × Int)) (B S : Int → Bool), WF n fs → (∀ p, In n p → B p = true → S p = false) → cal T G 19 73 [.v (wb n fs), .v (.tuple [.tuple (ofI (st n B)), .tuple (ofI (st n S))])] = .ok (.l (tl n fs S B)) := fun fs B S w dj => burn_times_ok t w dj 12
  have hbs : cal T G 19 73 [.v (wb n es), .v (sd n B S)] = .ok (.l (tl n es S B)) := hbt es B S w sf.dj
  have hlate : ∀ (fs : List (Int × Int)) (B S : Int → Bool), cal T G 19 123 [.v (.list (tl n fs S B))] = .ok (.l (lld n fs S B)) := fun fs B S => law_late_ok h123 18
  have hix : ∀ (fs : List (Int × Int)) (B S : Int → Bool) (k : Int), 0 ≤ k → k < n → ixD (.list (lld n fs S B)) (.int k) = .ok (.int (late (ft n fs S B k))) := fun fs B S k h0 h1 => ix_rg h0 h1
  have hlen : (ofI (st n B)).length + (ofI (st n S)).length ≤ 1000 := by
    have := st_len n B
    have := st_len n S
    rw [ofI_len, ofI_len]
    omega
  have hlen1 : ∀ (B : Int → Bool) (x : PyData), (ofI (st n B)).length + [x].length ≤ 1000 := fun B x => by
    have := st_len n B
    rw [ofI_len]
    simp only [List.length_cons, List.length_nil]
    omega
  unfold law36
  dsimp only
  simp only [exs_cons, exs_nil, ex_set, ex_sef, ex_unp, ex_par, ex_app, ex_ext, ex_six, ex_exp, ex_ret, ex_retv, ex_iff, ex_rse, ex_frz, ev_var, ev_cst, ev_glb, ev_bin, ev_neg, ev_cmp, ev_chn, ev_bo, ev_nt, ev_ite, ev_tup, ev_lst, ev_ix, ev_slc, ev_call, ev_b2, ev_isi, evs_nil, evs_cons, evr_nil, evr_cons, evB_one, evB_cons, pk, peek, nth, put, bindL_nil, bindL_cons, bindR_nil, bindR_cons, frzL, dat_v, dat_l, Res.dat_v, Res.dat_l, okb, exb, List.map_cons, List.map_nil, toI_int, toB_bool, bin_add, bin_sub, cmp_lt, cmp_le, cmp_gt, cmp_ge, cmp_eqi, cmp_nei, cmp_in, cmp_nin, b1_int, b1_lenl, b1_lent, b1_tupl, b1_tupt, b1_lstt, b1_lstl, ix_t0, ix_t1, isi_tup, isi_int, isi_nb, ev_b1v, ev_b1x, ev_b1c, ev_b1f, ev_b1b, ev_b1n, ev_b1t, ev_b1l, ev_b1s, if_true, if_false, Bool.false_eq_true, Bool.not_true, Bool.not_false, Bool.true_eq_false, hw', hs', hbs, hlate, ix_wb0, ix_sd0, ix_sd1, bin_addt hlen, O.bind_assoc]
  refine Yes.eq (yes_bind (P := fun fl => ∃ j6 j7 j8, fl = .nx [some (.v (scr ns)), some (.v (wb n es)), some (.v (sd n B S)), some (.v (.list (lld n es S B))), none, none, j6, j7, j8, none, none, none, none, none, none]) ?_ ?_)
  · by_cases h1 : (1 : Int) < n
    · simp only [h1, decide_true]
      obtain ⟨a, a0, a1, ha⟩ := pk_ok (G := G) tp 17 ns (k := 1) (c := n) (by omega) (by omega)
      obtain ⟨b, b0, b1, hb⟩ := pk_ok (G := G) tp 17 ns (k := 2) (c := (n : Int) - 1) (by omega) (by omega)
      have ha' : cal T G 19 8 [.v (scr ns), .v (.int 1), .v (.int n)] = .ok (.v (.int a)) := ha
      have hb' : cal T G 19 8 [.v (scr ns), .v (.int 2), .v (.int ((n : Int) - 1))] = .ok (.v (.int b)) := hb
      have hpos : (0 : Int) < n := by omega
      have c0 := Int.emod_nonneg (a + 1 + b) (by omega : (n : Int) ≠ 0)
      have c1 := Int.emod_lt_of_pos (a + 1 + b) hpos
      have hne : a ≠ (a + 1 + b) % (n : Int) := other_ne (by omega) hhi a0 a1 b0 b1
      have hwt : cal T G 19 32 [.v (wb n es), .v (.int a), .v (.int ((a + 1 + b) % n))] = .ok (.v (wb n (wt es a ((a + 1 + b) % n)))) := with_tie_ok t.toLooks w h23 h32 ⟨a0, a1⟩ ⟨c0, c1⟩ hne 14
      have wm := w.wt (a := a) (b := (a + 1 + b) % n) ⟨a0, a1⟩ ⟨c0, c1⟩ hne
      have hbm : cal T G 19 73 [.v (wb n (wt es a ((a + 1 + b) % n))), .v (sd n B S)] = .ok (.l (tl n (wt es a ((a + 1 + b) % n)) S B)) := hbt _ B S wm sf.dj
      simp only [exs_cons, exs_nil, ex_set, ex_sef, ex_unp, ex_par, ex_app, ex_ext, ex_six, ex_exp, ex_ret, ex_retv, ex_iff, ex_rse, ex_frz, ev_var, ev_cst, ev_glb, ev_bin, ev_neg, ev_cmp, ev_chn, ev_bo, ev_nt, ev_ite, ev_tup, ev_lst, ev_ix, ev_slc, ev_call, ev_b2, ev_isi, evs_nil, evs_cons, evr_nil, evr_cons, evB_one, evB_cons, pk, peek, nth, put, bindL_nil, bindL_cons, bindR_nil, bindR_cons, frzL, dat_v, dat_l, Res.dat_v, Res.dat_l, okb, exb, List.map_cons, List.map_nil, toI_int, toB_bool, bin_add, bin_sub, cmp_lt, cmp_le, cmp_gt, cmp_ge, cmp_eqi, cmp_nei, cmp_in, cmp_nin, b1_int, b1_lenl, b1_lent, b1_tupl, b1_tupt, b1_lstt, b1_lstl, ix_t0, ix_t1, isi_tup, isi_int, isi_nb, ev_b1v, ev_b1x, ev_b1c, ev_b1f, ev_b1b, ev_b1n, ev_b1t, ev_b1l, ev_b1s, if_true, if_false, Bool.false_eq_true, Bool.not_true, Bool.not_false, Bool.true_eq_false, ha', hb', ix_wb0, bin_mod, hpos, hwt, hbm, hlate]
      rw [comp_rg (n := n) (c := fun k => decide (late (ft n es S B k) < late (ft n (wt es a ((a + 1 + b) % n)) S B k))) (e := fun k => .int k) (by omega) (by simp only [exs_cons, exs_nil, ex_set, ex_sef, ex_unp, ex_par, ex_app, ex_ext, ex_six, ex_exp, ex_ret, ex_retv, ex_iff, ex_rse, ex_frz, ev_var, ev_cst, ev_glb, ev_bin, ev_neg, ev_cmp, ev_chn, ev_bo, ev_nt, ev_ite, ev_tup, ev_lst, ev_ix, ev_slc, ev_call, ev_b2, ev_isi, evs_nil, evs_cons, evr_nil, evr_cons, evB_one, evB_cons, pk, peek, nth, put, bindL_nil, bindL_cons, bindR_nil, bindR_cons, frzL, dat_v, dat_l, Res.dat_v, Res.dat_l, okb, exb, List.map_cons, List.map_nil, toI_int, toB_bool, bin_add, bin_sub, cmp_lt, cmp_le, cmp_gt, cmp_ge, cmp_eqi, cmp_nei, cmp_in, cmp_nin, b1_int, b1_lenl, b1_lent, b1_tupl, b1_tupt, b1_lstt, b1_lstl, ix_t0, ix_t1, isi_tup, isi_int, isi_nb, ev_b1v, ev_b1x, ev_b1c, ev_b1f, ev_b1b, ev_b1n, ev_b1t, ev_b1l, ev_b1s, if_true, if_false, Bool.false_eq_true, Bool.not_true, Bool.not_false, Bool.true_eq_false, ix_wb0]) (fun x x0 x1 => by simp only [exs_cons, exs_nil, ex_set, ex_sef, ex_unp, ex_par, ex_app, ex_ext, ex_six, ex_exp, ex_ret, ex_retv, ex_iff, ex_rse, ex_frz, ev_var, ev_cst, ev_glb, ev_bin, ev_neg, ev_cmp, ev_chn, ev_bo, ev_nt, ev_ite, ev_tup, ev_lst, ev_ix, ev_slc, ev_call, ev_b2, ev_isi, evs_nil, evs_cons, evr_nil, evr_cons, evB_one, evB_cons, pk, peek, nth, put, bindL_nil, bindL_cons, bindR_nil, bindR_cons, frzL, dat_v, dat_l, Res.dat_v, Res.dat_l, okb, exb, List.map_cons, List.map_nil, toI_int, toB_bool, bin_add, bin_sub, cmp_lt, cmp_le, cmp_gt, cmp_ge, cmp_eqi, cmp_nei, cmp_in, cmp_nin, b1_int, b1_lenl, b1_lent, b1_tupl, b1_tupt, b1_lstt, b1_lstl, ix_t0, ix_t1, isi_tup, isi_int, isi_nb, ev_b1v, ev_b1x, ev_b1c, ev_b1f, ev_b1b, ev_b1n, ev_b1t, ev_b1l, ev_b1s, if_true, if_false, Bool.false_eq_true, Bool.not_true, Bool.not_false, Bool.true_eq_false, hix _ _ _ x x0 x1]) (fun x x0 x1 _ => by simp only [exs_cons, exs_nil, ex_set, ex_sef, ex_unp, ex_par, ex_app, ex_ext, ex_six, ex_exp, ex_ret, ex_retv, ex_iff, ex_rse, ex_frz, ev_var, ev_cst, ev_glb, ev_bin, ev_neg, ev_cmp, ev_chn, ev_bo, ev_nt, ev_ite, ev_tup, ev_lst, ev_ix, ev_slc, ev_call, ev_b2, ev_isi, evs_nil, evs_cons, evr_nil, evr_cons, evB_one, evB_cons, pk, peek, nth, put, bindL_nil, bindL_cons, bindR_nil, bindR_cons, frzL, dat_v, dat_l, Res.dat_v, Res.dat_l, okb, exb, List.map_cons, List.map_nil, toI_int, toB_bool, bin_add, bin_sub, cmp_lt, cmp_le, cmp_gt, cmp_ge, cmp_eqi, cmp_nei, cmp_in, cmp_nin, b1_int, b1_lenl, b1_lent, b1_tupl, b1_tupt, b1_lstt, b1_lstl, ix_t0, ix_t1, isi_tup, isi_int, isi_nb, ev_b1v, ev_b1x, ev_b1c, ev_b1f, ev_b1b, ev_b1n, ev_b1t, ev_b1l, ev_b1s, if_true, if_false, Bool.false_eq_true, Bool.not_true, Bool.not_false, Bool.true_eq_false])]
      have hnil : st n (fun k => decide (late (ft n es S B k) < late (ft n (wt es a ((a + 1 + b) % n)) S B k))) = [] := by
        rw [st_nil]
        intro x x0 x1
        have := late_le (n := n) (es := es) (es' := wt es a ((a + 1 + b) % n)) (S := S) (S' := S) (B := B) (B' := B) (p := x) fun k h => bt_le (fun _ _ h => h) (fun _ _ h => h) (fun _ _ h => adj_wt h) k x ⟨x0, x1⟩ h
        exact decide_eq_false (by omega)
      rw [hnil]
      have e0 := cmp_ne_nil []
      simp only [exs_cons, exs_nil, ex_set, ex_sef, ex_unp, ex_par, ex_app, ex_ext, ex_six, ex_exp, ex_ret, ex_retv, ex_iff, ex_rse, ex_frz, ev_var, ev_cst, ev_glb, ev_bin, ev_neg, ev_cmp, ev_chn, ev_bo, ev_nt, ev_ite, ev_tup, ev_lst, ev_ix, ev_slc, ev_call, ev_b2, ev_isi, evs_nil, evs_cons, evr_nil, evr_cons, evB_one, evB_cons, pk, peek, nth, put, bindL_nil, bindL_cons, bindR_nil, bindR_cons, frzL, dat_v, dat_l, Res.dat_v, Res.dat_l, okb, exb, List.map_cons, List.map_nil, toI_int, toB_bool, bin_add, bin_sub, cmp_lt, cmp_le, cmp_gt, cmp_ge, cmp_eqi, cmp_nei, cmp_in, cmp_nin, b1_int, b1_lenl, b1_lent, b1_tupl, b1_tupt, b1_lstt, b1_lstl, ix_t0, ix_t1, isi_tup, isi_int, isi_nb, ev_b1v, ev_b1x, ev_b1c, ev_b1f, ev_b1b, ev_b1n, ev_b1t, ev_b1l, ev_b1s, if_true, if_false, Bool.false_eq_true, Bool.not_true, Bool.not_false, Bool.true_eq_false, e0, ofI, List.isEmpty_nil]
      have e1 : cmpD .ne (.list []) (.list []) = .ok false := e0
      simp only [exs_cons, exs_nil, ex_set, ex_sef, ex_unp, ex_par, ex_app, ex_ext, ex_six, ex_exp, ex_ret, ex_retv, ex_iff, ex_rse, ex_frz, ev_var, ev_cst, ev_glb, ev_bin, ev_neg, ev_cmp, ev_chn, ev_bo, ev_nt, ev_ite, ev_tup, ev_lst, ev_ix, ev_slc, ev_call, ev_b2, ev_isi, evs_nil, evs_cons, evr_nil, evr_cons, evB_one, evB_cons, pk, peek, nth, put, bindL_nil, bindL_cons, bindR_nil, bindR_cons, frzL, dat_v, dat_l, Res.dat_v, Res.dat_l, okb, exb, List.map_cons, List.map_nil, toI_int, toB_bool, bin_add, bin_sub, cmp_lt, cmp_le, cmp_gt, cmp_ge, cmp_eqi, cmp_nei, cmp_in, cmp_nin, b1_int, b1_lenl, b1_lent, b1_tupl, b1_tupt, b1_lstt, b1_lstl, ix_t0, ix_t1, isi_tup, isi_int, isi_nb, ev_b1v, ev_b1x, ev_b1c, ev_b1f, ev_b1b, ev_b1n, ev_b1t, ev_b1l, ev_b1s, if_true, if_false, Bool.false_eq_true, Bool.not_true, Bool.not_false, Bool.true_eq_false, e1]
      exact yes_ok ⟨_, _, _, rfl⟩
    · simp only [h1, decide_false]
      exact yes_ok ⟨_, _, _, rfl⟩
  · rintro fl ⟨j6, j7, j8, rfl⟩
    simp only [exs_cons, exs_nil, ex_set, ex_sef, ex_unp, ex_par, ex_app, ex_ext, ex_six, ex_exp, ex_ret, ex_retv, ex_iff, ex_rse, ex_frz, ev_var, ev_cst, ev_glb, ev_bin, ev_neg, ev_cmp, ev_chn, ev_bo, ev_nt, ev_ite, ev_tup, ev_lst, ev_ix, ev_slc, ev_call, ev_b2, ev_isi, evs_nil, evs_cons, evr_nil, evr_cons, evB_one, evB_cons, pk, peek, nth, put, bindL_nil, bindL_cons, bindR_nil, bindR_cons, frzL, dat_v, dat_l, Res.dat_v, Res.dat_l, okb, exb, List.map_cons, List.map_nil, toI_int, toB_bool, bin_add, bin_sub, cmp_lt, cmp_le, cmp_gt, cmp_ge, cmp_eqi, cmp_nei, cmp_in, cmp_nin, b1_int, b1_lenl, b1_lent, b1_tupl, b1_tupt, b1_lstt, b1_lstl, ix_t0, ix_t1, isi_tup, isi_int, isi_nb, ev_b1v, ev_b1x, ev_b1c, ev_b1f, ev_b1b, ev_b1n, ev_b1t, ev_b1l, ev_b1s, if_true, if_false, Bool.false_eq_true, Bool.not_true, Bool.not_false, Bool.true_eq_false]
    rw [comp_rg (n := n) (c := fun k => !(B k || S k)) (e := fun k => .int k) (by omega) (by simp only [exs_cons, exs_nil, ex_set, ex_sef, ex_unp, ex_par, ex_app, ex_ext, ex_six, ex_exp, ex_ret, ex_retv, ex_iff, ex_rse, ex_frz, ev_var, ev_cst, ev_glb, ev_bin, ev_neg, ev_cmp, ev_chn, ev_bo, ev_nt, ev_ite, ev_tup, ev_lst, ev_ix, ev_slc, ev_call, ev_b2, ev_isi, evs_nil, evs_cons, evr_nil, evr_cons, evB_one, evB_cons, pk, peek, nth, put, bindL_nil, bindL_cons, bindR_nil, bindR_cons, frzL, dat_v, dat_l, Res.dat_v, Res.dat_l, okb, exb, List.map_cons, List.map_nil, toI_int, toB_bool, bin_add, bin_sub, cmp_lt, cmp_le, cmp_gt, cmp_ge, cmp_eqi, cmp_nei, cmp_in, cmp_nin, b1_int, b1_lenl, b1_lent, b1_tupl, b1_tupt, b1_lstt, b1_lstl, ix_t0, ix_t1, isi_tup, isi_int, isi_nb, ev_b1v, ev_b1x, ev_b1c, ev_b1f, ev_b1b, ev_b1n, ev_b1t, ev_b1l, ev_b1s, if_true, if_false, Bool.false_eq_true, Bool.not_true, Bool.not_false, Bool.true_eq_false, ix_wb0]) (fun x x0 x1 => by simp only [exs_cons, exs_nil, ex_set, ex_sef, ex_unp, ex_par, ex_app, ex_ext, ex_six, ex_exp, ex_ret, ex_retv, ex_iff, ex_rse, ex_frz, ev_var, ev_cst, ev_glb, ev_bin, ev_neg, ev_cmp, ev_chn, ev_bo, ev_nt, ev_ite, ev_tup, ev_lst, ev_ix, ev_slc, ev_call, ev_b2, ev_isi, evs_nil, evs_cons, evr_nil, evr_cons, evB_one, evB_cons, pk, peek, nth, put, bindL_nil, bindL_cons, bindR_nil, bindR_cons, frzL, dat_v, dat_l, Res.dat_v, Res.dat_l, okb, exb, List.map_cons, List.map_nil, toI_int, toB_bool, bin_add, bin_sub, cmp_lt, cmp_le, cmp_gt, cmp_ge, cmp_eqi, cmp_nei, cmp_in, cmp_nin, b1_int, b1_lenl, b1_lent, b1_tupl, b1_tupt, b1_lstt, b1_lstl, ix_t0, ix_t1, isi_tup, isi_int, isi_nb, ev_b1v, ev_b1x, ev_b1c, ev_b1f, ev_b1b, ev_b1n, ev_b1t, ev_b1l, ev_b1s, if_true, if_false, Bool.false_eq_true, Bool.not_true, Bool.not_false, Bool.true_eq_false, ix_sd0, ix_sd1, bin_addt hlen, ofI_app, in_tup, mem_bs (B := B) (S := S) ⟨x0, x1⟩]) (fun x x0 x1 _ => by simp only [exs_cons, exs_nil, ex_set, ex_sef, ex_unp, ex_par, ex_app, ex_ext, ex_six, ex_exp, ex_ret, ex_retv, ex_iff, ex_rse, ex_frz, ev_var, ev_cst, ev_glb, ev_bin, ev_neg, ev_cmp, ev_chn, ev_bo, ev_nt, ev_ite, ev_tup, ev_lst, ev_ix, ev_slc, ev_call, ev_b2, ev_isi, evs_nil, evs_cons, evr_nil, evr_cons, evB_one, evB_cons, pk, peek, nth, put, bindL_nil, bindL_cons, bindR_nil, bindR_cons, frzL, dat_v, dat_l, Res.dat_v, Res.dat_l, okb, exb, List.map_cons, List.map_nil, toI_int, toB_bool, bin_add, bin_sub, cmp_lt, cmp_le, cmp_gt, cmp_ge, cmp_eqi, cmp_nei, cmp_in, cmp_nin, b1_int, b1_lenl, b1_lent, b1_tupl, b1_tupt, b1_lstt, b1_lstl, ix_t0, ix_t1, isi_tup, isi_int, isi_nb, ev_b1v, ev_b1x, ev_b1c, ev_b1f, ev_b1b, ev_b1n, ev_b1t, ev_b1l, ev_b1s, if_true, if_false, Bool.false_eq_true, Bool.not_true, Bool.not_false, Bool.true_eq_false])]
    have eF : (st n fun k => !(B k || S k)).map (fun k => PyData.int k) = ofI (st n fun k => !(B k || S k)) := rfl
    rw [eF]
    generalize hF : (st n fun k => !(B k || S k)) = F
    simp only [exs_cons, exs_nil, ex_set, ex_sef, ex_unp, ex_par, ex_app, ex_ext, ex_six, ex_exp, ex_ret, ex_retv, ex_iff, ex_rse, ex_frz, ev_var, ev_cst, ev_glb, ev_bin, ev_neg, ev_cmp, ev_chn, ev_bo, ev_nt, ev_ite, ev_tup, ev_lst, ev_ix, ev_slc, ev_call, ev_b2, ev_isi, evs_nil, evs_cons, evr_nil, evr_cons, evB_one, evB_cons, pk, peek, nth, put, bindL_nil, bindL_cons, bindR_nil, bindR_cons, frzL, dat_v, dat_l, Res.dat_v, Res.dat_l, okb, exb, List.map_cons, List.map_nil, toI_int, toB_bool, bin_add, bin_sub, cmp_lt, cmp_le, cmp_gt, cmp_ge, cmp_eqi, cmp_nei, cmp_in, cmp_nin, b1_int, b1_lenl, b1_lent, b1_tupl, b1_tupt, b1_lstt, b1_lstl, ix_t0, ix_t1, isi_tup, isi_int, isi_nb, ev_b1v, ev_b1x, ev_b1c, ev_b1f, ev_b1b, ev_b1n, ev_b1t, ev_b1l, ev_b1s, if_true, if_false, Bool.false_eq_true, Bool.not_true, Bool.not_false, Bool.true_eq_false, cmp_ne_nil, O.bind_assoc]
    refine yes_bind (P := fun fl => ∃ j9 j10 j11 j12, fl = .nx [some (.v (scr ns)), some (.v (wb n es)), some (.v (sd n B S)), some (.v (.list (lld n es S B))), some (.v (.list (ofI F))), none, j6, j7, j8, j9, j10, j11, j12, none, none]) ?_ ?_
    · cases hFe : F.isEmpty with
      | true => exact yes_ok ⟨_, _, _, _, rfl⟩
      | false =>
        have hFn : F ≠ [] := fun e => by rw [e] at hFe; cases hFe
        have hFl : (0 : Int) < F.length := by
          cases F with
          | nil => exact absurd rfl hFn
          | cons a l => simp only [List.length_cons]; omega
        obtain ⟨i, i0, i1, hi⟩ := pk_ok (G := G) tp 17 ns (k := 3) (c := F.length) (by omega) hFl
        have hi' : cal T G 19 8 [.v (scr ns), .v (.int 3), .v (.int F.length)] = .ok (.v (.int i)) := hi
        obtain ⟨x, hx, hxi⟩ := ix_ofI i0 i1
        rw [← hF] at hx
        obtain ⟨hxn, hxc⟩ := mem_st.mp hx
        have hxB : B x = false := by cases q : B x <;> simp_all
        have hxS : S x = false := by cases q : S x <;> simp_all
        have hlit := hbt es (or1 B x) S w fun p hp h => by
          unfold or1 at h
          rw [Bool.or_eq_true, decide_eq_true_eq] at h
          rcases h with h | h
          · exact sf.dj p hp h
          · rw [h]; exact hxS
        have hal := hbt es (fun p => decide (p = x)) S w fun p hp h => by rw [of_decide_eq_true h]; exact hxS
        rw [st_one hxn] at hal
        have hal' : cal T G 19 73 [.v (wb n es), .v (.tuple [.tuple [.int x], .tuple (ofI (st n S))])] = .ok (.l (tl n es S fun p => decide (p = x))) := hal
        have djk : ∀ p, In n p → B p = true → or1 S x p = false := fun p hp h => by
          unfold or1
          rw [sf.dj p hp h, Bool.false_or]
          refine decide_eq_false fun e => ?_
          rw [e, hxB] at h
          cases h
        have hkp := hbt es B (or1 S x) w djk
        simp only [exs_cons, exs_nil, ex_set, ex_sef, ex_unp, ex_par, ex_app, ex_ext, ex_six, ex_exp, ex_ret, ex_retv, ex_iff, ex_rse, ex_frz, ev_var, ev_cst, ev_glb, ev_bin, ev_neg, ev_cmp, ev_chn, ev_bo, ev_nt, ev_ite, ev_tup, ev_lst, ev_ix, ev_slc, ev_call, ev_b2, ev_isi, evs_nil, evs_cons, evr_nil, evr_cons, evB_one, evB_cons, pk, peek, nth, put, bindL_nil, bindL_cons, bindR_nil, bindR_cons, frzL, dat_v, dat_l, Res.dat_v, Res.dat_l, okb, exb, List.map_cons, List.map_nil, toI_int, toB_bool, bin_add, bin_sub, cmp_lt, cmp_le, cmp_gt, cmp_ge, cmp_eqi, cmp_nei, cmp_in, cmp_nin, b1_int, b1_lenl, b1_lent, b1_tupl, b1_tupt, b1_lstt, b1_lstl, ix_t0, ix_t1, isi_tup, isi_int, isi_nb, ev_b1v, ev_b1x, ev_b1c, ev_b1f, ev_b1b, ev_b1n, ev_b1t, ev_b1l, ev_b1s, if_true, if_false, Bool.false_eq_true, Bool.not_true, Bool.not_false, Bool.true_eq_false, ofI_len, hi', hxi, ix_sd0, ix_sd1, bin_addt (hlen1 B _), bin_addt (hlen1 S _), ofI_snoc, b1_sortT, sort_or1 hxn hxB, sort_or1 hxn hxS, hlit, hal', hkp, hlate]
        rw [comp_rgT (n := n) (e := fun k => .int (min (late (ft n es S B k)) (late (ft n es S (fun p => decide (p = x)) k)))) (by omega) (by simp only [exs_cons, exs_nil, ex_set, ex_sef, ex_unp, ex_par, ex_app, ex_ext, ex_six, ex_exp, ex_ret, ex_retv, ex_iff, ex_rse, ex_frz, ev_var, ev_cst, ev_glb, ev_bin, ev_neg, ev_cmp, ev_chn, ev_bo, ev_nt, ev_ite, ev_tup, ev_lst, ev_ix, ev_slc, ev_call, ev_b2, ev_isi, evs_nil, evs_cons, evr_nil, evr_cons, evB_one, evB_cons, pk, peek, nth, put, bindL_nil, bindL_cons, bindR_nil, bindR_cons, frzL, dat_v, dat_l, Res.dat_v, Res.dat_l, okb, exb, List.map_cons, List.map_nil, toI_int, toB_bool, bin_add, bin_sub, cmp_lt, cmp_le, cmp_gt, cmp_ge, cmp_eqi, cmp_nei, cmp_in, cmp_nin, b1_int, b1_lenl, b1_lent, b1_tupl, b1_tupt, b1_lstt, b1_lstl, ix_t0, ix_t1, isi_tup, isi_int, isi_nb, ev_b1v, ev_b1x, ev_b1c, ev_b1f, ev_b1b, ev_b1n, ev_b1t, ev_b1l, ev_b1s, if_true, if_false, Bool.false_eq_true, Bool.not_true, Bool.not_false, Bool.true_eq_false, ix_wb0]) (fun k k0 k1 => by simp only [exs_cons, exs_nil, ex_set, ex_sef, ex_unp, ex_par, ex_app, ex_ext, ex_six, ex_exp, ex_ret, ex_retv, ex_iff, ex_rse, ex_frz, ev_var, ev_cst, ev_glb, ev_bin, ev_neg, ev_cmp, ev_chn, ev_bo, ev_nt, ev_ite, ev_tup, ev_lst, ev_ix, ev_slc, ev_call, ev_b2, ev_isi, evs_nil, evs_cons, evr_nil, evr_cons, evB_one, evB_cons, pk, peek, nth, put, bindL_nil, bindL_cons, bindR_nil, bindR_cons, frzL, dat_v, dat_l, Res.dat_v, Res.dat_l, okb, exb, List.map_cons, List.map_nil, toI_int, toB_bool, bin_add, bin_sub, cmp_lt, cmp_le, cmp_gt, cmp_ge, cmp_eqi, cmp_nei, cmp_in, cmp_nin, b1_int, b1_lenl, b1_lent, b1_tupl, b1_tupt, b1_lstt, b1_lstl, ix_t0, ix_t1, isi_tup, isi_int, isi_nb, ev_b1v, ev_b1x, ev_b1c, ev_b1f, ev_b1b, ev_b1n, ev_b1t, ev_b1l, ev_b1s, if_true, if_false, Bool.false_eq_true, Bool.not_true, Bool.not_false, Bool.true_eq_false, hix _ _ _ k k0 k1, min_if])]
        have e1 : ((rg n).map fun k => PyData.int (min (late (ft n es S B k)) (late (ft n es S (fun p => decide (p = x)) k)))) = lld n es S (or1 B x) := List.map_congr_left fun k _ => by rw [late_or]
        have hpl : pl 1 (.list (lld n es S (or1 B x))) = true := by
          rw [lld_ofI]
          exact pl_ofI _ 0
        rw [e1]
        simp only [exs_cons, exs_nil, ex_set, ex_sef, ex_unp, ex_par, ex_app, ex_ext, ex_six, ex_exp, ex_ret, ex_retv, ex_iff, ex_rse, ex_frz, ev_var, ev_cst, ev_glb, ev_bin, ev_neg, ev_cmp, ev_chn, ev_bo, ev_nt, ev_ite, ev_tup, ev_lst, ev_ix, ev_slc, ev_call, ev_b2, ev_isi, evs_nil, evs_cons, evr_nil, evr_cons, evB_one, evB_cons, pk, peek, nth, put, bindL_nil, bindL_cons, bindR_nil, bindR_cons, frzL, dat_v, dat_l, Res.dat_v, Res.dat_l, okb, exb, List.map_cons, List.map_nil, toI_int, toB_bool, bin_add, bin_sub, cmp_lt, cmp_le, cmp_gt, cmp_ge, cmp_eqi, cmp_nei, cmp_in, cmp_nin, b1_int, b1_lenl, b1_lent, b1_tupl, b1_tupt, b1_lstt, b1_lstl, ix_t0, ix_t1, isi_tup, isi_int, isi_nb, ev_b1v, ev_b1x, ev_b1c, ev_b1f, ev_b1b, ev_b1n, ev_b1t, ev_b1l, ev_b1s, if_true, if_false, Bool.false_eq_true, Bool.not_true, Bool.not_false, Bool.true_eq_false, cmp_ne_same hpl (by omega : 1 ≤ 64), ix_sd0, ix_sd1, bin_addt (hlen1 S _), ofI_snoc, b1_sortT, sort_or1 hxn hxS, hkp, hlate]
        rw [comp_rg (n := n) (c := fun k => decide (late (ft n es (or1 S x) B k) < late (ft n es S B k))) (e := fun k => .int k) (by omega) (by simp only [exs_cons, exs_nil, ex_set, ex_sef, ex_unp, ex_par, ex_app, ex_ext, ex_six, ex_exp, ex_ret, ex_retv, ex_iff, ex_rse, ex_frz, ev_var, ev_cst, ev_glb, ev_bin, ev_neg, ev_cmp, ev_chn, ev_bo, ev_nt, ev_ite, ev_tup, ev_lst, ev_ix, ev_slc, ev_call, ev_b2, ev_isi, evs_nil, evs_cons, evr_nil, evr_cons, evB_one, evB_cons, pk, peek, nth, put, bindL_nil, bindL_cons, bindR_nil, bindR_cons, frzL, dat_v, dat_l, Res.dat_v, Res.dat_l, okb, exb, List.map_cons, List.map_nil, toI_int, toB_bool, bin_add, bin_sub, cmp_lt, cmp_le, cmp_gt, cmp_ge, cmp_eqi, cmp_nei, cmp_in, cmp_nin, b1_int, b1_lenl, b1_lent, b1_tupl, b1_tupt, b1_lstt, b1_lstl, ix_t0, ix_t1, isi_tup, isi_int, isi_nb, ev_b1v, ev_b1x, ev_b1c, ev_b1f, ev_b1b, ev_b1n, ev_b1t, ev_b1l, ev_b1s, if_true, if_false, Bool.false_eq_true, Bool.not_true, Bool.not_false, Bool.true_eq_false, ix_wb0]) (fun k k0 k1 => by simp only [exs_cons, exs_nil, ex_set, ex_sef, ex_unp, ex_par, ex_app, ex_ext, ex_six, ex_exp, ex_ret, ex_retv, ex_iff, ex_rse, ex_frz, ev_var, ev_cst, ev_glb, ev_bin, ev_neg, ev_cmp, ev_chn, ev_bo, ev_nt, ev_ite, ev_tup, ev_lst, ev_ix, ev_slc, ev_call, ev_b2, ev_isi, evs_nil, evs_cons, evr_nil, evr_cons, evB_one, evB_cons, pk, peek, nth, put, bindL_nil, bindL_cons, bindR_nil, bindR_cons, frzL, dat_v, dat_l, Res.dat_v, Res.dat_l, okb, exb, List.map_cons, List.map_nil, toI_int, toB_bool, bin_add, bin_sub, cmp_lt, cmp_le, cmp_gt, cmp_ge, cmp_eqi, cmp_nei, cmp_in, cmp_nin, b1_int, b1_lenl, b1_lent, b1_tupl, b1_tupt, b1_lstt, b1_lstl, ix_t0, ix_t1, isi_tup, isi_int, isi_nb, ev_b1v, ev_b1x, ev_b1c, ev_b1f, ev_b1b, ev_b1n, ev_b1t, ev_b1l, ev_b1s, if_true, if_false, Bool.false_eq_true, Bool.not_true, Bool.not_false, Bool.true_eq_false, hix _ _ _ k k0 k1]) (fun k k0 k1 _ => by simp only [exs_cons, exs_nil, ex_set, ex_sef, ex_unp, ex_par, ex_app, ex_ext, ex_six, ex_exp, ex_ret, ex_retv, ex_iff, ex_rse, ex_frz, ev_var, ev_cst, ev_glb, ev_bin, ev_neg, ev_cmp, ev_chn, ev_bo, ev_nt, ev_ite, ev_tup, ev_lst, ev_ix, ev_slc, ev_call, ev_b2, ev_isi, evs_nil, evs_cons, evr_nil, evr_cons, evB_one, evB_cons, pk, peek, nth, put, bindL_nil, bindL_cons, bindR_nil, bindR_cons, frzL, dat_v, dat_l, Res.dat_v, Res.dat_l, okb, exb, List.map_cons, List.map_nil, toI_int, toB_bool, bin_add, bin_sub, cmp_lt, cmp_le, cmp_gt, cmp_ge, cmp_eqi, cmp_nei, cmp_in, cmp_nin, b1_int, b1_lenl, b1_lent, b1_tupl, b1_tupt, b1_lstt, b1_lstl, ix_t0, ix_t1, isi_tup, isi_int, isi_nb, ev_b1v, ev_b1x, ev_b1c, ev_b1f, ev_b1b, ev_b1n, ev_b1t, ev_b1l, ev_b1s, if_true, if_false, Bool.false_eq_true, Bool.not_true, Bool.not_false, Bool.true_eq_false])]
        have hnil : st n (fun k => decide (late (ft n es (or1 S x) B k) < late (ft n es S B k))) = [] := by
          rw [st_nil]
          intro k k0 k1
          have := late_le (n := n) (es := es) (es' := es) (S := or1 S x) (S' := S) (B := B) (B' := B) (p := k) fun j h => bt_le (fun _ _ h => h) (fun p _ h => by unfold or1; rw [h]; rfl) (fun _ _ h => h) j k ⟨k0, k1⟩ h
          exact decide_eq_false (by omega)
        rw [hnil]
        have e2 : cmpD .ne (.list []) (.list []) = .ok false := cmp_ne_nil []
        have e3 : late (ft n es (or1 S x) B x) = 99 := by
          have : ft n es (or1 S x) B x = none := ft_none.mpr fun k _ => bt_saved (fun p hp h => by
            cases q : B p with
            | false => rfl
            | true => rw [djk p hp q] at h; cases h) k x hxn (by unfold or1; simp)
          rw [this]
          rfl
        have e4 : ((99 : Int) == 99) = true := rfl
        simp only [exs_cons, exs_nil, ex_set, ex_sef, ex_unp, ex_par, ex_app, ex_ext, ex_six, ex_exp, ex_ret, ex_retv, ex_iff, ex_rse, ex_frz, ev_var, ev_cst, ev_glb, ev_bin, ev_neg, ev_cmp, ev_chn, ev_bo, ev_nt, ev_ite, ev_tup, ev_lst, ev_ix, ev_slc, ev_call, ev_b2, ev_isi, evs_nil, evs_cons, evr_nil, evr_cons, evB_one, evB_cons, pk, peek, nth, put, bindL_nil, bindL_cons, bindR_nil, bindR_cons, frzL, dat_v, dat_l, Res.dat_v, Res.dat_l, okb, exb, List.map_cons, List.map_nil, toI_int, toB_bool, bin_add, bin_sub, cmp_lt, cmp_le, cmp_gt, cmp_ge, cmp_eqi, cmp_nei, cmp_in, cmp_nin, b1_int, b1_lenl, b1_lent, b1_tupl, b1_tupt, b1_lstt, b1_lstl, ix_t0, ix_t1, isi_tup, isi_int, isi_nb, ev_b1v, ev_b1x, ev_b1c, ev_b1f, ev_b1b, ev_b1n, ev_b1t, ev_b1l, ev_b1s, if_true, if_false, Bool.false_eq_true, Bool.not_true, Bool.not_false, Bool.true_eq_false, e2, hix _ _ _ x hxn.1 hxn.2, e3, e4]
        exact yes_ok ⟨_, _, _, _, rfl⟩
    · rintro fl ⟨j9, j10, j11, j12, rfl⟩
      simp only [exs_cons, exs_nil, ex_set, ex_sef, ex_unp, ex_par, ex_app, ex_ext, ex_six, ex_exp, ex_ret, ex_retv, ex_iff, ex_rse, ex_frz, ev_var, ev_cst, ev_glb, ev_bin, ev_neg, ev_cmp, ev_chn, ev_bo, ev_nt, ev_ite, ev_tup, ev_lst, ev_ix, ev_slc, ev_call, ev_b2, ev_isi, evs_nil, evs_cons, evr_nil, evr_cons, evB_one, evB_cons, pk, peek, nth, put, bindL_nil, bindL_cons, bindR_nil, bindR_cons, frzL, dat_v, dat_l, Res.dat_v, Res.dat_l, okb, exb, List.map_cons, List.map_nil, toI_int, toB_bool, bin_add, bin_sub, cmp_lt, cmp_le, cmp_gt, cmp_ge, cmp_eqi, cmp_nei, cmp_in, cmp_nin, b1_int, b1_lenl, b1_lent, b1_tupl, b1_tupt, b1_lstt, b1_lstl, ix_t0, ix_t1, isi_tup, isi_int, isi_nb, ev_b1v, ev_b1x, ev_b1c, ev_b1f, ev_b1b, ev_b1n, ev_b1t, ev_b1l, ev_b1s, if_true, if_false, Bool.false_eq_true, Bool.not_true, Bool.not_false, Bool.true_eq_false]
      rw [comp_lT (l := st n B) (e := fun b => .list (lld n es S fun p => decide (p = b))) ?_ (fun b hb => ?_)]
      · simp only [exs_cons, exs_nil, ex_set, ex_sef, ex_unp, ex_par, ex_app, ex_ext, ex_six, ex_exp, ex_ret, ex_retv, ex_iff, ex_rse, ex_frz, ev_var, ev_cst, ev_glb, ev_bin, ev_neg, ev_cmp, ev_chn, ev_bo, ev_nt, ev_ite, ev_tup, ev_lst, ev_ix, ev_slc, ev_call, ev_b2, ev_isi, evs_nil, evs_cons, evr_nil, evr_cons, evB_one, evB_cons, pk, peek, nth, put, bindL_nil, bindL_cons, bindR_nil, bindR_cons, frzL, dat_v, dat_l, Res.dat_v, Res.dat_l, okb, exb, List.map_cons, List.map_nil, toI_int, toB_bool, bin_add, bin_sub, cmp_lt, cmp_le, cmp_gt, cmp_ge, cmp_eqi, cmp_nei, cmp_in, cmp_nin, b1_int, b1_lenl, b1_lent, b1_tupl, b1_tupt, b1_lstt, b1_lstl, ix_t0, ix_t1, isi_tup, isi_int, isi_nb, ev_b1v, ev_b1x, ev_b1c, ev_b1f, ev_b1b, ev_b1n, ev_b1t, ev_b1l, ev_b1s, if_true, if_false, Bool.false_eq_true, Bool.not_true, Bool.not_false, Bool.true_eq_false]
        rw [comp_rgT (n := n) (e := fun k => .int (late (ft n es S B k))) (by omega) (by simp only [exs_cons, exs_nil, ex_set, ex_sef, ex_unp, ex_par, ex_app, ex_ext, ex_six, ex_exp, ex_ret, ex_retv, ex_iff, ex_rse, ex_frz, ev_var, ev_cst, ev_glb, ev_bin, ev_neg, ev_cmp, ev_chn, ev_bo, ev_nt, ev_ite, ev_tup, ev_lst, ev_ix, ev_slc, ev_call, ev_b2, ev_isi, evs_nil, evs_cons, evr_nil, evr_cons, evB_one, evB_cons, pk, peek, nth, put, bindL_nil, bindL_cons, bindR_nil, bindR_cons, frzL, dat_v, dat_l, Res.dat_v, Res.dat_l, okb, exb, List.map_cons, List.map_nil, toI_int, toB_bool, bin_add, bin_sub, cmp_lt, cmp_le, cmp_gt, cmp_ge, cmp_eqi, cmp_nei, cmp_in, cmp_nin, b1_int, b1_lenl, b1_lent, b1_tupl, b1_tupt, b1_lstt, b1_lstl, ix_t0, ix_t1, isi_tup, isi_int, isi_nb, ev_b1v, ev_b1x, ev_b1c, ev_b1f, ev_b1b, ev_b1n, ev_b1t, ev_b1l, ev_b1s, if_true, if_false, Bool.false_eq_true, Bool.not_true, Bool.not_false, Bool.true_eq_false, ix_wb0]) (fun k k0 k1 => ?_)]
        · have hpl : pl 1 (.list (lld n es S B)) = true := by
            rw [lld_ofI]
            exact pl_ofI _ 0
          have := cmp_eq_same hpl (by omega : 1 ≤ 64)
          have e : ((rg n).map fun k => PyData.int (late (ft n es S B k))) = lld n es S B := rfl
          rw [e]
          simp only [exs_cons, exs_nil, ex_set, ex_sef, ex_unp, ex_par, ex_app, ex_ext, ex_six, ex_exp, ex_ret, ex_retv, ex_iff, ex_rse, ex_frz, ev_var, ev_cst, ev_glb, ev_bin, ev_neg, ev_cmp, ev_chn, ev_bo, ev_nt, ev_ite, ev_tup, ev_lst, ev_ix, ev_slc, ev_call, ev_b2, ev_isi, evs_nil, evs_cons, evr_nil, evr_cons, evB_one, evB_cons, pk, peek, nth, put, bindL_nil, bindL_cons, bindR_nil, bindR_cons, frzL, dat_v, dat_l, Res.dat_v, Res.dat_l, okb, exb, List.map_cons, List.map_nil, toI_int, toB_bool, bin_add, bin_sub, cmp_lt, cmp_le, cmp_gt, cmp_ge, cmp_eqi, cmp_nei, cmp_in, cmp_nin, b1_int, b1_lenl, b1_lent, b1_tupl, b1_tupt, b1_lstt, b1_lstl, ix_t0, ix_t1, isi_tup, isi_int, isi_nb, ev_b1v, ev_b1x, ev_b1c, ev_b1f, ev_b1b, ev_b1n, ev_b1t, ev_b1l, ev_b1s, if_true, if_false, Bool.false_eq_true, Bool.not_true, Bool.not_false, Bool.true_eq_false, this]
          exact yes_ok rfl
        · simp only [exs_cons, exs_nil, ex_set, ex_sef, ex_unp, ex_par, ex_app, ex_ext, ex_six, ex_exp, ex_ret, ex_retv, ex_iff, ex_rse, ex_frz, ev_var, ev_cst, ev_glb, ev_bin, ev_neg, ev_cmp, ev_chn, ev_bo, ev_nt, ev_ite, ev_tup, ev_lst, ev_ix, ev_slc, ev_call, ev_b2, ev_isi, evs_nil, evs_cons, evr_nil, evr_cons, evB_one, evB_cons, pk, peek, nth, put, bindL_nil, bindL_cons, bindR_nil, bindR_cons, frzL, dat_v, dat_l, Res.dat_v, Res.dat_l, okb, exb, List.map_cons, List.map_nil, toI_int, toB_bool, bin_add, bin_sub, cmp_lt, cmp_le, cmp_gt, cmp_ge, cmp_eqi, cmp_nei, cmp_in, cmp_nin, b1_int, b1_lenl, b1_lent, b1_tupl, b1_tupt, b1_lstt, b1_lstl, ix_t0, ix_t1, isi_tup, isi_int, isi_nb, ev_b1v, ev_b1x, ev_b1c, ev_b1f, ev_b1b, ev_b1n, ev_b1t, ev_b1l, ev_b1s, if_true, if_false, Bool.false_eq_true, Bool.not_true, Bool.not_false, Bool.true_eq_false]
          rw [ev_comp (xs := st n B) (enc := fun b => .list (lld n es S fun p => decide (p = b))) (fun b => [some (.v (scr ns)), some (.v (wb n es)), some (.v (sd n B S)), some (.v (.list (lld n es S B))), some (.v (.list (ofI F))), some (.v (.list ((st n B).map fun b => .list (lld n es S fun p => decide (p = b))))), j6, j7, j8, j9, j10, j11, j12, some (.v (.int k)), some (.v (.list (lld n es S fun p => decide (p = b))))]) (fun _ => true) (fun b => .int (late (ft n es S (fun p => decide (p = b)) k))) (by rfl) (fun b _ => rfl) (fun b _ => by simp only [exs_cons, exs_nil, ex_set, ex_sef, ex_unp, ex_par, ex_app, ex_ext, ex_six, ex_exp, ex_ret, ex_retv, ex_iff, ex_rse, ex_frz, ev_var, ev_cst, ev_glb, ev_bin, ev_neg, ev_cmp, ev_chn, ev_bo, ev_nt, ev_ite, ev_tup, ev_lst, ev_ix, ev_slc, ev_call, ev_b2, ev_isi, evs_nil, evs_cons, evr_nil, evr_cons, evB_one, evB_cons, pk, peek, nth, put, bindL_nil, bindL_cons, bindR_nil, bindR_cons, frzL, dat_v, dat_l, Res.dat_v, Res.dat_l, okb, exb, List.map_cons, List.map_nil, toI_int, toB_bool, bin_add, bin_sub, cmp_lt, cmp_le, cmp_gt, cmp_ge, cmp_eqi, cmp_nei, cmp_in, cmp_nin, b1_int, b1_lenl, b1_lent, b1_tupl, b1_tupt, b1_lstt, b1_lstl, ix_t0, ix_t1, isi_tup, isi_int, isi_nb, ev_b1v, ev_b1x, ev_b1c, ev_b1f, ev_b1b, ev_b1n, ev_b1t, ev_b1l, ev_b1s, if_true, if_false, Bool.false_eq_true, Bool.not_true, Bool.not_false, Bool.true_eq_false]) (fun b _ _ => by simp only [exs_cons, exs_nil, ex_set, ex_sef, ex_unp, ex_par, ex_app, ex_ext, ex_six, ex_exp, ex_ret, ex_retv, ex_iff, ex_rse, ex_frz, ev_var, ev_cst, ev_glb, ev_bin, ev_neg, ev_cmp, ev_chn, ev_bo, ev_nt, ev_ite, ev_tup, ev_lst, ev_ix, ev_slc, ev_call, ev_b2, ev_isi, evs_nil, evs_cons, evr_nil, evr_cons, evB_one, evB_cons, pk, peek, nth, put, bindL_nil, bindL_cons, bindR_nil, bindR_cons, frzL, dat_v, dat_l, Res.dat_v, Res.dat_l, okb, exb, List.map_cons, List.map_nil, toI_int, toB_bool, bin_add, bin_sub, cmp_lt, cmp_le, cmp_gt, cmp_ge, cmp_eqi, cmp_nei, cmp_in, cmp_nin, b1_int, b1_lenl, b1_lent, b1_tupl, b1_tupt, b1_lstt, b1_lstl, ix_t0, ix_t1, isi_tup, isi_int, isi_nb, ev_b1v, ev_b1x, ev_b1c, ev_b1f, ev_b1b, ev_b1n, ev_b1t, ev_b1l, ev_b1s, if_true, if_false, Bool.false_eq_true, Bool.not_true, Bool.not_false, Bool.true_eq_false, hix _ _ _ k k0 k1])]
          rw [filt_true]
          have hne : st n B ≠ [] := fun e => by
            obtain ⟨p, hp, hB⟩ := sf.ne
            have := mem_st.mpr ⟨hp, hB⟩
            rw [e] at this
            simp at this
          obtain ⟨mm, hm1, hm2, hm3⟩ := min_ok (g := fun b => late (ft n es S (fun p => decide (p = b)) k)) hne
          rw [late_min ⟨k0, k1⟩ hm2 hm3] at hm1
          simp only [exs_cons, exs_nil, ex_set, ex_sef, ex_unp, ex_par, ex_app, ex_ext, ex_six, ex_exp, ex_ret, ex_retv, ex_iff, ex_rse, ex_frz, ev_var, ev_cst, ev_glb, ev_bin, ev_neg, ev_cmp, ev_chn, ev_bo, ev_nt, ev_ite, ev_tup, ev_lst, ev_ix, ev_slc, ev_call, ev_b2, ev_isi, evs_nil, evs_cons, evr_nil, evr_cons, evB_one, evB_cons, pk, peek, nth, put, bindL_nil, bindL_cons, bindR_nil, bindR_cons, frzL, dat_v, dat_l, Res.dat_v, Res.dat_l, okb, exb, List.map_cons, List.map_nil, toI_int, toB_bool, bin_add, bin_sub, cmp_lt, cmp_le, cmp_gt, cmp_ge, cmp_eqi, cmp_nei, cmp_in, cmp_nin, b1_int, b1_lenl, b1_lent, b1_tupl, b1_tupt, b1_lstt, b1_lstl, ix_t0, ix_t1, isi_tup, isi_int, isi_nb, ev_b1v, ev_b1x, ev_b1c, ev_b1f, ev_b1b, ev_b1n, ev_b1t, ev_b1l, ev_b1s, if_true, if_false, Bool.false_eq_true, Bool.not_true, Bool.not_false, Bool.true_eq_false, hm1]
      · rw [srcV_ix]
        simp only [exs_cons, exs_nil, ex_set, ex_sef, ex_unp, ex_par, ex_app, ex_ext, ex_six, ex_exp, ex_ret, ex_retv, ex_iff, ex_rse, ex_frz, ev_var, ev_cst, ev_glb, ev_bin, ev_neg, ev_cmp, ev_chn, ev_bo, ev_nt, ev_ite, ev_tup, ev_lst, ev_ix, ev_slc, ev_call, ev_b2, ev_isi, evs_nil, evs_cons, evr_nil, evr_cons, evB_one, evB_cons, pk, peek, nth, put, bindL_nil, bindL_cons, bindR_nil, bindR_cons, frzL, dat_v, dat_l, Res.dat_v, Res.dat_l, okb, exb, List.map_cons, List.map_nil, toI_int, toB_bool, bin_add, bin_sub, cmp_lt, cmp_le, cmp_gt, cmp_ge, cmp_eqi, cmp_nei, cmp_in, cmp_nin, b1_int, b1_lenl, b1_lent, b1_tupl, b1_tupt, b1_lstt, b1_lstl, ix_t0, ix_t1, isi_tup, isi_int, isi_nb, ev_b1v, ev_b1x, ev_b1c, ev_b1f, ev_b1b, ev_b1n, ev_b1t, ev_b1l, ev_b1s, if_true, if_false, Bool.false_eq_true, Bool.not_true, Bool.not_false, Bool.true_eq_false, ix_sd0]
        rfl
      · have hb' := (mem_st.mp hb)
        have hal := hbt es (fun p => decide (p = b)) S w fun p hp h => by rw [of_decide_eq_true h]; exact sf.dj b hb'.1 hb'.2
        rw [st_one hb'.1] at hal
        have hal' : cal T G 19 73 [.v (wb n es), .v (.tuple [.tuple [.int b], .tuple (ofI (st n S))])] = .ok (.l (tl n es S fun p => decide (p = b))) := hal
        simp only [exs_cons, exs_nil, ex_set, ex_sef, ex_unp, ex_par, ex_app, ex_ext, ex_six, ex_exp, ex_ret, ex_retv, ex_iff, ex_rse, ex_frz, ev_var, ev_cst, ev_glb, ev_bin, ev_neg, ev_cmp, ev_chn, ev_bo, ev_nt, ev_ite, ev_tup, ev_lst, ev_ix, ev_slc, ev_call, ev_b2, ev_isi, evs_nil, evs_cons, evr_nil, evr_cons, evB_one, evB_cons, pk, peek, nth, put, bindL_nil, bindL_cons, bindR_nil, bindR_cons, frzL, dat_v, dat_l, Res.dat_v, Res.dat_l, okb, exb, List.map_cons, List.map_nil, toI_int, toB_bool, bin_add, bin_sub, cmp_lt, cmp_le, cmp_gt, cmp_ge, cmp_eqi, cmp_nei, cmp_in, cmp_nin, b1_int, b1_lenl, b1_lent, b1_tupl, b1_tupt, b1_lstt, b1_lstl, ix_t0, ix_t1, isi_tup, isi_int, isi_nb, ev_b1v, ev_b1x, ev_b1c, ev_b1f, ev_b1b, ev_b1n, ev_b1t, ev_b1l, ev_b1s, if_true, if_false, Bool.false_eq_true, Bool.not_true, Bool.not_false, Bool.true_eq_false, ix_sd1, hal', hlate]
end HF

set_option Elab.async false
set_option linter.all false
set_option maxRecDepth 100000
set_option maxHeartbeats 4000000
/-! ### GE: a law's own spreading; fronts, safe places, sources -/
namespace HF
open PySem
structure LawSp (T : List Fn) : Prop where
  f10 : nthF T 10 = some u__law_beside
  f12 : nthF T 12 = some u__law_danger
  f13 : nthF T 13 = some u__law_spread
section
variable {T : List Fn} {G : List PyData} {n : Nat} {es : List (Int × Int)} {B S : Int → Bool}
theorem adj_mm (w : WF n es) (p x : Int) : (!(x == p) && decide ((min p x, max p x) ∈ es)) = adj es p x := by
  refine bool_ext (fun h => ?_) fun h => ?_
  · rw [Bool.and_eq_true, decide_eq_true_eq] at h
    unfold adj
    rw [Bool.or_eq_true, decide_eq_true_eq, decide_eq_true_eq]
    rcases Int.le_total p x with z | z
    · rw [Int.min_eq_left z, Int.max_eq_right z] at h
      exact .inl h.2
    · rw [Int.min_eq_right z, Int.max_eq_left z] at h
      exact .inr h.2
  · unfold adj at h
    rw [Bool.or_eq_true, decide_eq_true_eq, decide_eq_true_eq] at h
    rw [Bool.and_eq_true, decide_eq_true_eq]
    rcases h with h | h
    · have := w.tie _ h
      have h1 : p < x := this.2.1
      rw [Int.min_eq_left (by omega), Int.max_eq_right (by omega)]
      refine ⟨?_, h⟩
      have : x ≠ p := by omega
      simpa using this
    · have := w.tie _ h
      have h1 : x < p := this.2.1
      rw [Int.min_eq_right (by omega), Int.max_eq_left (by omega)]
      refine ⟨?_, h⟩
      have : x ≠ p := by omega
      simpa using this
theorem law_beside_ok (f10 : nthF T 10 = some u__law_beside) (w : WF n es) {p : Int} (m : Nat) : cal T G (m + 1) 10 [.v (wb n es), .v (.int p)] = .ok (.l (ofI (st n (adj es p)))) := by
  rw [cal_eq f10 rfl]
  show (exs (cal T G m) G 1000 u__law_beside.body [some (.v (wb n es)), some (.v (.int p)), none, none]).bind _ = _
  have hn : n ≤ 1000 := by have := w.hi; omega
  unfold u__law_beside
  dsimp only
  simp only [exs_cons, exs_nil, ex_set, ex_sef, ex_unp, ex_par, ex_app, ex_ext, ex_six, ex_exp, ex_ret, ex_retv, ex_iff, ex_rse, ex_frz, ev_var, ev_cst, ev_glb, ev_bin, ev_neg, ev_cmp, ev_chn, ev_bo, ev_nt, ev_ite, ev_tup, ev_lst, ev_ix, ev_slc, ev_call, ev_b2, ev_isi, evs_nil, evs_cons, evr_nil, evr_cons, evB_one, evB_cons, pk, peek, nth, put, bindL_nil, bindL_cons, bindR_nil, bindR_cons, frzL, dat_v, dat_l, Res.dat_v, Res.dat_l, okb, exb, List.map_cons, List.map_nil, toI_int, toB_bool, bin_add, bin_sub, cmp_lt, cmp_le, cmp_gt, cmp_ge, cmp_eqi, cmp_nei, cmp_in, cmp_nin, b1_int, b1_lenl, b1_lent, b1_tupl, b1_tupt, b1_lstt, b1_lstl, ix_t0, ix_t1, isi_tup, isi_int, isi_nb, ev_b1v, ev_b1x, ev_b1c, ev_b1f, ev_b1b, ev_b1n, ev_b1t, ev_b1l, ev_b1s, if_true, if_false, Bool.false_eq_true, Bool.not_true, Bool.not_false, Bool.true_eq_false, O.bind_assoc]
  refine fr_bind (enc := .int) (fun xs r => ∃ (d : List Int) (j : Option Res), d ++ xs = rg n ∧ r = [some (.v (wb n es)), some (.v (.int p)), some (.l (ofI (d.filter (adj es p)))), j])
    (its_rng1 (k := n) hn (by simp only [exs_cons, exs_nil, ex_set, ex_sef, ex_unp, ex_par, ex_app, ex_ext, ex_six, ex_exp, ex_ret, ex_retv, ex_iff, ex_rse, ex_frz, ev_var, ev_cst, ev_glb, ev_bin, ev_neg, ev_cmp, ev_chn, ev_bo, ev_nt, ev_ite, ev_tup, ev_lst, ev_ix, ev_slc, ev_call, ev_b2, ev_isi, evs_nil, evs_cons, evr_nil, evr_cons, evB_one, evB_cons, pk, peek, nth, put, bindL_nil, bindL_cons, bindR_nil, bindR_cons, frzL, dat_v, dat_l, Res.dat_v, Res.dat_l, okb, exb, List.map_cons, List.map_nil, toI_int, toB_bool, bin_add, bin_sub, cmp_lt, cmp_le, cmp_gt, cmp_ge, cmp_eqi, cmp_nei, cmp_in, cmp_nin, b1_int, b1_lenl, b1_lent, b1_tupl, b1_tupt, b1_lstt, b1_lstl, ix_t0, ix_t1, isi_tup, isi_int, isi_nb, ev_b1v, ev_b1x, ev_b1c, ev_b1f, ev_b1b, ev_b1n, ev_b1t, ev_b1l, ev_b1s, if_true, if_false, Bool.false_eq_true, Bool.not_true, Bool.not_false, Bool.true_eq_false, ix_wb0])) ⟨[], none, rfl, rfl⟩ ?_ ?_
  · rintro x xs r ⟨d, j, hd, rfl⟩
    refine ⟨_, _, rfl, ?_, d ++ [x], some (.v (.int x)), by simp [hd], rfl⟩
    rw [filt_snoc, ← adj_mm w p x]
    have hl := len_ok (α := Int) (c := adj es p) hd hn
    cases hxp : (x == p) with
    | true => simp only [exs_cons, exs_nil, ex_set, ex_sef, ex_unp, ex_par, ex_app, ex_ext, ex_six, ex_exp, ex_ret, ex_retv, ex_iff, ex_rse, ex_frz, ev_var, ev_cst, ev_glb, ev_bin, ev_neg, ev_cmp, ev_chn, ev_bo, ev_nt, ev_ite, ev_tup, ev_lst, ev_ix, ev_slc, ev_call, ev_b2, ev_isi, evs_nil, evs_cons, evr_nil, evr_cons, evB_one, evB_cons, pk, peek, nth, put, bindL_nil, bindL_cons, bindR_nil, bindR_cons, frzL, dat_v, dat_l, Res.dat_v, Res.dat_l, okb, exb, List.map_cons, List.map_nil, toI_int, toB_bool, bin_add, bin_sub, cmp_lt, cmp_le, cmp_gt, cmp_ge, cmp_eqi, cmp_nei, cmp_in, cmp_nin, b1_int, b1_lenl, b1_lent, b1_tupl, b1_tupt, b1_lstt, b1_lstl, ix_t0, ix_t1, isi_tup, isi_int, isi_nb, ev_b1v, ev_b1x, ev_b1c, ev_b1f, ev_b1b, ev_b1n, ev_b1t, ev_b1l, ev_b1s, if_true, if_false, Bool.false_eq_true, Bool.not_true, Bool.not_false, Bool.true_eq_false, hxp, Bool.false_and, List.append_nil]
    | false =>
      cases hm : decide ((min p x, max p x) ∈ es) with
      | true => simp only [exs_cons, exs_nil, ex_set, ex_sef, ex_unp, ex_par, ex_app, ex_ext, ex_six, ex_exp, ex_ret, ex_retv, ex_iff, ex_rse, ex_frz, ev_var, ev_cst, ev_glb, ev_bin, ev_neg, ev_cmp, ev_chn, ev_bo, ev_nt, ev_ite, ev_tup, ev_lst, ev_ix, ev_slc, ev_call, ev_b2, ev_isi, evs_nil, evs_cons, evr_nil, evr_cons, evB_one, evB_cons, pk, peek, nth, put, bindL_nil, bindL_cons, bindR_nil, bindR_cons, frzL, dat_v, dat_l, Res.dat_v, Res.dat_l, okb, exb, List.map_cons, List.map_nil, toI_int, toB_bool, bin_add, bin_sub, cmp_lt, cmp_le, cmp_gt, cmp_ge, cmp_eqi, cmp_nei, cmp_in, cmp_nin, b1_int, b1_lenl, b1_lent, b1_tupl, b1_tupt, b1_lstt, b1_lstl, ix_t0, ix_t1, isi_tup, isi_int, isi_nb, ev_b1v, ev_b1x, ev_b1c, ev_b1f, ev_b1b, ev_b1n, ev_b1t, ev_b1l, ev_b1s, if_true, if_false, Bool.false_eq_true, Bool.not_true, Bool.not_false, Bool.true_eq_false, hxp, ix_wb1, min_if, max_if, in_ties, hm, Bool.true_and, hl, ofI_snoc]
      | false => simp only [exs_cons, exs_nil, ex_set, ex_sef, ex_unp, ex_par, ex_app, ex_ext, ex_six, ex_exp, ex_ret, ex_retv, ex_iff, ex_rse, ex_frz, ev_var, ev_cst, ev_glb, ev_bin, ev_neg, ev_cmp, ev_chn, ev_bo, ev_nt, ev_ite, ev_tup, ev_lst, ev_ix, ev_slc, ev_call, ev_b2, ev_isi, evs_nil, evs_cons, evr_nil, evr_cons, evB_one, evB_cons, pk, peek, nth, put, bindL_nil, bindL_cons, bindR_nil, bindR_cons, frzL, dat_v, dat_l, Res.dat_v, Res.dat_l, okb, exb, List.map_cons, List.map_nil, toI_int, toB_bool, bin_add, bin_sub, cmp_lt, cmp_le, cmp_gt, cmp_ge, cmp_eqi, cmp_nei, cmp_in, cmp_nin, b1_int, b1_lenl, b1_lent, b1_tupl, b1_tupt, b1_lstt, b1_lstl, ix_t0, ix_t1, isi_tup, isi_int, isi_nb, ev_b1v, ev_b1x, ev_b1c, ev_b1f, ev_b1b, ev_b1n, ev_b1t, ev_b1l, ev_b1s, if_true, if_false, Bool.false_eq_true, Bool.not_true, Bool.not_false, Bool.true_eq_false, hxp, ix_wb1, min_if, max_if, in_ties, hm, Bool.true_and, List.append_nil]
  · rintro r ⟨d, j, hd, rfl⟩
    rw [List.append_nil] at hd
    subst hd
    simp only [exs_cons, exs_nil, ex_set, ex_sef, ex_unp, ex_par, ex_app, ex_ext, ex_six, ex_exp, ex_ret, ex_retv, ex_iff, ex_rse, ex_frz, ev_var, ev_cst, ev_glb, ev_bin, ev_neg, ev_cmp, ev_chn, ev_bo, ev_nt, ev_ite, ev_tup, ev_lst, ev_ix, ev_slc, ev_call, ev_b2, ev_isi, evs_nil, evs_cons, evr_nil, evr_cons, evB_one, evB_cons, pk, peek, nth, put, bindL_nil, bindL_cons, bindR_nil, bindR_cons, frzL, dat_v, dat_l, Res.dat_v, Res.dat_l, okb, exb, List.map_cons, List.map_nil, toI_int, toB_bool, bin_add, bin_sub, cmp_lt, cmp_le, cmp_gt, cmp_ge, cmp_eqi, cmp_nei, cmp_in, cmp_nin, b1_int, b1_lenl, b1_lent, b1_tupl, b1_tupt, b1_lstt, b1_lstl, ix_t0, ix_t1, isi_tup, isi_int, isi_nb, ev_b1v, ev_b1x, ev_b1c, ev_b1f, ev_b1b, ev_b1n, ev_b1t, ev_b1l, ev_b1s, if_true, if_false, Bool.false_eq_true, Bool.not_true, Bool.not_false, Bool.true_eq_false]
theorem near_nil (x : Int) : ((st n (adj es x)).filter fun p => decide (p ∈ st n B)).isEmpty = !nb n es B x := by
  rw [← any_nb]
  cases h : (st n (adj es x)).filter fun p => decide (p ∈ st n B) with
  | nil =>
    have := List.filter_eq_nil_iff.mp h
    rw [List.any_eq_false.mpr this]
    rfl
  | cons a l =>
    have ha : a ∈ (st n (adj es x)).filter fun p => decide (p ∈ st n B) := by rw [h]; simp
    obtain ⟨h1, h2⟩ := List.mem_filter.mp ha
    rw [List.any_eq_true.mpr ⟨a, h1, h2⟩]
    rfl
theorem law_danger_ok (t : LawSp T) (w : WF n es) (m : Nat) : cal T G (m + 2) 12 [.v (wb n es), .v (sd n B S)] = .ok (.l (ofI (st n (thr n es S B)))) := by
  rw [cal_eq t.f12 rfl]
  show (exs (cal T G (m + 1)) G 1000 u__law_danger.body [some (.v (wb n es)), some (.v (sd n B S)), none, none, none, none]).bind _ = _
  have hn : n ≤ 1000 := by have := w.hi; omega
  have hlen : (ofI (st n B)).length + (ofI (st n S)).length ≤ 1000 := by
    have := st_len n B
    have := st_len n S
    have := w.hi
    rw [ofI_len, ofI_len]
    omega
  unfold u__law_danger
  dsimp only
  simp only [exs_cons, exs_nil, ex_set, ex_sef, ex_unp, ex_par, ex_app, ex_ext, ex_six, ex_exp, ex_ret, ex_retv, ex_iff, ex_rse, ex_frz, ev_var, ev_cst, ev_glb, ev_bin, ev_neg, ev_cmp, ev_chn, ev_bo, ev_nt, ev_ite, ev_tup, ev_lst, ev_ix, ev_slc, ev_call, ev_b2, ev_isi, evs_nil, evs_cons, evr_nil, evr_cons, evB_one, evB_cons, pk, peek, nth, put, bindL_nil, bindL_cons, bindR_nil, bindR_cons, frzL, dat_v, dat_l, Res.dat_v, Res.dat_l, okb, exb, List.map_cons, List.map_nil, toI_int, toB_bool, bin_add, bin_sub, cmp_lt, cmp_le, cmp_gt, cmp_ge, cmp_eqi, cmp_nei, cmp_in, cmp_nin, b1_int, b1_lenl, b1_lent, b1_tupl, b1_tupt, b1_lstt, b1_lstl, ix_t0, ix_t1, isi_tup, isi_int, isi_nb, ev_b1v, ev_b1x, ev_b1c, ev_b1f, ev_b1b, ev_b1n, ev_b1t, ev_b1l, ev_b1s, if_true, if_false, Bool.false_eq_true, Bool.not_true, Bool.not_false, Bool.true_eq_false, O.bind_assoc]
  refine fr_bind (enc := .int) (fun xs r => ∃ (d : List Int) (j j2 : Option Res), d ++ xs = rg n ∧ r = [some (.v (wb n es)), some (.v (sd n B S)), some (.l (ofI (d.filter (thr n es S B)))), j, j2, none])
    (its_rng1 (k := n) hn (by simp only [exs_cons, exs_nil, ex_set, ex_sef, ex_unp, ex_par, ex_app, ex_ext, ex_six, ex_exp, ex_ret, ex_retv, ex_iff, ex_rse, ex_frz, ev_var, ev_cst, ev_glb, ev_bin, ev_neg, ev_cmp, ev_chn, ev_bo, ev_nt, ev_ite, ev_tup, ev_lst, ev_ix, ev_slc, ev_call, ev_b2, ev_isi, evs_nil, evs_cons, evr_nil, evr_cons, evB_one, evB_cons, pk, peek, nth, put, bindL_nil, bindL_cons, bindR_nil, bindR_cons, frzL, dat_v, dat_l, Res.dat_v, Res.dat_l, okb, exb, List.map_cons, List.map_nil, toI_int, toB_bool, bin_add, bin_sub, cmp_lt, cmp_le, cmp_gt, cmp_ge, cmp_eqi, cmp_nei, cmp_in, cmp_nin, b1_int, b1_lenl, b1_lent, b1_tupl, b1_tupt, b1_lstt, b1_lstl, ix_t0, ix_t1, isi_tup, isi_int, isi_nb, ev_b1v, ev_b1x, ev_b1c, ev_b1f, ev_b1b, ev_b1n, ev_b1t, ev_b1l, ev_b1s, if_true, if_false, Bool.false_eq_true, Bool.not_true, Bool.not_false, Bool.true_eq_false, ix_wb0])) ⟨[], none, none, rfl, rfl⟩ ?_ ?_
  · rintro x xs r ⟨d, j, j2, hd, rfl⟩
    have hx : In n x := mem_rg.mp (by rw [← hd]; simp)
    refine ⟨_, _, rfl, ?_, d ++ [x], some (.v (.int x)), some (.v (.list (ofI ((st n (adj es x)).filter fun p => decide (p ∈ st n B))))), by simp [hd], rfl⟩
    have hl := len_ok (α := Int) (c := thr n es S B) hd hn
    simp only [exs_cons, exs_nil, ex_set, ex_sef, ex_unp, ex_par, ex_app, ex_ext, ex_six, ex_exp, ex_ret, ex_retv, ex_iff, ex_rse, ex_frz, ev_var, ev_cst, ev_glb, ev_bin, ev_neg, ev_cmp, ev_chn, ev_bo, ev_nt, ev_ite, ev_tup, ev_lst, ev_ix, ev_slc, ev_call, ev_b2, ev_isi, evs_nil, evs_cons, evr_nil, evr_cons, evB_one, evB_cons, pk, peek, nth, put, bindL_nil, bindL_cons, bindR_nil, bindR_cons, frzL, dat_v, dat_l, Res.dat_v, Res.dat_l, okb, exb, List.map_cons, List.map_nil, toI_int, toB_bool, bin_add, bin_sub, cmp_lt, cmp_le, cmp_gt, cmp_ge, cmp_eqi, cmp_nei, cmp_in, cmp_nin, b1_int, b1_lenl, b1_lent, b1_tupl, b1_tupt, b1_lstt, b1_lstl, ix_t0, ix_t1, isi_tup, isi_int, isi_nb, ev_b1v, ev_b1x, ev_b1c, ev_b1f, ev_b1b, ev_b1n, ev_b1t, ev_b1l, ev_b1s, if_true, if_false, Bool.false_eq_true, Bool.not_true, Bool.not_false, Bool.true_eq_false]
    rw [comp_l (l := st n (adj es x)) (c := fun p => decide (p ∈ st n B)) (e := fun p => .int p) ?_ (fun p hp => ?_) (fun p hp _ => by simp only [exs_cons, exs_nil, ex_set, ex_sef, ex_unp, ex_par, ex_app, ex_ext, ex_six, ex_exp, ex_ret, ex_retv, ex_iff, ex_rse, ex_frz, ev_var, ev_cst, ev_glb, ev_bin, ev_neg, ev_cmp, ev_chn, ev_bo, ev_nt, ev_ite, ev_tup, ev_lst, ev_ix, ev_slc, ev_call, ev_b2, ev_isi, evs_nil, evs_cons, evr_nil, evr_cons, evB_one, evB_cons, pk, peek, nth, put, bindL_nil, bindL_cons, bindR_nil, bindR_cons, frzL, dat_v, dat_l, Res.dat_v, Res.dat_l, okb, exb, List.map_cons, List.map_nil, toI_int, toB_bool, bin_add, bin_sub, cmp_lt, cmp_le, cmp_gt, cmp_ge, cmp_eqi, cmp_nei, cmp_in, cmp_nin, b1_int, b1_lenl, b1_lent, b1_tupl, b1_tupt, b1_lstt, b1_lstl, ix_t0, ix_t1, isi_tup, isi_int, isi_nb, ev_b1v, ev_b1x, ev_b1c, ev_b1f, ev_b1b, ev_b1n, ev_b1t, ev_b1l, ev_b1s, if_true, if_false, Bool.false_eq_true, Bool.not_true, Bool.not_false, Bool.true_eq_false])]
    · have e : (((st n (adj es x)).filter fun p => decide (p ∈ st n B)).map fun p => PyData.int p) = ofI ((st n (adj es x)).filter fun p => decide (p ∈ st n B)) := rfl
      rw [e]
      simp only [exs_cons, exs_nil, ex_set, ex_sef, ex_unp, ex_par, ex_app, ex_ext, ex_six, ex_exp, ex_ret, ex_retv, ex_iff, ex_rse, ex_frz, ev_var, ev_cst, ev_glb, ev_bin, ev_neg, ev_cmp, ev_chn, ev_bo, ev_nt, ev_ite, ev_tup, ev_lst, ev_ix, ev_slc, ev_call, ev_b2, ev_isi, evs_nil, evs_cons, evr_nil, evr_cons, evB_one, evB_cons, pk, peek, nth, put, bindL_nil, bindL_cons, bindR_nil, bindR_cons, frzL, dat_v, dat_l, Res.dat_v, Res.dat_l, okb, exb, List.map_cons, List.map_nil, toI_int, toB_bool, bin_add, bin_sub, cmp_lt, cmp_le, cmp_gt, cmp_ge, cmp_eqi, cmp_nei, cmp_in, cmp_nin, b1_int, b1_lenl, b1_lent, b1_tupl, b1_tupt, b1_lstt, b1_lstl, ix_t0, ix_t1, isi_tup, isi_int, isi_nb, ev_b1v, ev_b1x, ev_b1c, ev_b1f, ev_b1b, ev_b1n, ev_b1t, ev_b1l, ev_b1s, if_true, if_false, Bool.false_eq_true, Bool.not_true, Bool.not_false, Bool.true_eq_false, cmp_ne_nil, near_nil, Bool.not_not]
      rw [filt_snoc]
      cases hN : nb n es B x with
      | false => simp only [exs_cons, exs_nil, ex_set, ex_sef, ex_unp, ex_par, ex_app, ex_ext, ex_six, ex_exp, ex_ret, ex_retv, ex_iff, ex_rse, ex_frz, ev_var, ev_cst, ev_glb, ev_bin, ev_neg, ev_cmp, ev_chn, ev_bo, ev_nt, ev_ite, ev_tup, ev_lst, ev_ix, ev_slc, ev_call, ev_b2, ev_isi, evs_nil, evs_cons, evr_nil, evr_cons, evB_one, evB_cons, pk, peek, nth, put, bindL_nil, bindL_cons, bindR_nil, bindR_cons, frzL, dat_v, dat_l, Res.dat_v, Res.dat_l, okb, exb, List.map_cons, List.map_nil, toI_int, toB_bool, bin_add, bin_sub, cmp_lt, cmp_le, cmp_gt, cmp_ge, cmp_eqi, cmp_nei, cmp_in, cmp_nin, b1_int, b1_lenl, b1_lent, b1_tupl, b1_tupt, b1_lstt, b1_lstl, ix_t0, ix_t1, isi_tup, isi_int, isi_nb, ev_b1v, ev_b1x, ev_b1c, ev_b1f, ev_b1b, ev_b1n, ev_b1t, ev_b1l, ev_b1s, if_true, if_false, Bool.false_eq_true, Bool.not_true, Bool.not_false, Bool.true_eq_false, thr, hN, Bool.and_false, List.append_nil]
      | true =>
        simp only [exs_cons, exs_nil, ex_set, ex_sef, ex_unp, ex_par, ex_app, ex_ext, ex_six, ex_exp, ex_ret, ex_retv, ex_iff, ex_rse, ex_frz, ev_var, ev_cst, ev_glb, ev_bin, ev_neg, ev_cmp, ev_chn, ev_bo, ev_nt, ev_ite, ev_tup, ev_lst, ev_ix, ev_slc, ev_call, ev_b2, ev_isi, evs_nil, evs_cons, evr_nil, evr_cons, evB_one, evB_cons, pk, peek, nth, put, bindL_nil, bindL_cons, bindR_nil, bindR_cons, frzL, dat_v, dat_l, Res.dat_v, Res.dat_l, okb, exb, List.map_cons, List.map_nil, toI_int, toB_bool, bin_add, bin_sub, cmp_lt, cmp_le, cmp_gt, cmp_ge, cmp_eqi, cmp_nei, cmp_in, cmp_nin, b1_int, b1_lenl, b1_lent, b1_tupl, b1_tupt, b1_lstt, b1_lstl, ix_t0, ix_t1, isi_tup, isi_int, isi_nb, ev_b1v, ev_b1x, ev_b1c, ev_b1f, ev_b1b, ev_b1n, ev_b1t, ev_b1l, ev_b1s, if_true, if_false, Bool.false_eq_true, Bool.not_true, Bool.not_false, Bool.true_eq_false, ix_sd0, ix_sd1, bin_addt hlen, ofI_app, in_tup, mem_bs hx]
        cases hB : B x with
        | true => simp only [exs_cons, exs_nil, ex_set, ex_sef, ex_unp, ex_par, ex_app, ex_ext, ex_six, ex_exp, ex_ret, ex_retv, ex_iff, ex_rse, ex_frz, ev_var, ev_cst, ev_glb, ev_bin, ev_neg, ev_cmp, ev_chn, ev_bo, ev_nt, ev_ite, ev_tup, ev_lst, ev_ix, ev_slc, ev_call, ev_b2, ev_isi, evs_nil, evs_cons, evr_nil, evr_cons, evB_one, evB_cons, pk, peek, nth, put, bindL_nil, bindL_cons, bindR_nil, bindR_cons, frzL, dat_v, dat_l, Res.dat_v, Res.dat_l, okb, exb, List.map_cons, List.map_nil, toI_int, toB_bool, bin_add, bin_sub, cmp_lt, cmp_le, cmp_gt, cmp_ge, cmp_eqi, cmp_nei, cmp_in, cmp_nin, b1_int, b1_lenl, b1_lent, b1_tupl, b1_tupt, b1_lstt, b1_lstl, ix_t0, ix_t1, isi_tup, isi_int, isi_nb, ev_b1v, ev_b1x, ev_b1c, ev_b1f, ev_b1b, ev_b1n, ev_b1t, ev_b1l, ev_b1s, if_true, if_false, Bool.false_eq_true, Bool.not_true, Bool.not_false, Bool.true_eq_false, thr, hB, hN, Bool.false_and, Bool.true_or, List.append_nil]
        | false =>
          cases hS : S x with
          | true => simp only [exs_cons, exs_nil, ex_set, ex_sef, ex_unp, ex_par, ex_app, ex_ext, ex_six, ex_exp, ex_ret, ex_retv, ex_iff, ex_rse, ex_frz, ev_var, ev_cst, ev_glb, ev_bin, ev_neg, ev_cmp, ev_chn, ev_bo, ev_nt, ev_ite, ev_tup, ev_lst, ev_ix, ev_slc, ev_call, ev_b2, ev_isi, evs_nil, evs_cons, evr_nil, evr_cons, evB_one, evB_cons, pk, peek, nth, put, bindL_nil, bindL_cons, bindR_nil, bindR_cons, frzL, dat_v, dat_l, Res.dat_v, Res.dat_l, okb, exb, List.map_cons, List.map_nil, toI_int, toB_bool, bin_add, bin_sub, cmp_lt, cmp_le, cmp_gt, cmp_ge, cmp_eqi, cmp_nei, cmp_in, cmp_nin, b1_int, b1_lenl, b1_lent, b1_tupl, b1_tupt, b1_lstt, b1_lstl, ix_t0, ix_t1, isi_tup, isi_int, isi_nb, ev_b1v, ev_b1x, ev_b1c, ev_b1f, ev_b1b, ev_b1n, ev_b1t, ev_b1l, ev_b1s, if_true, if_false, Bool.false_eq_true, Bool.not_true, Bool.not_false, Bool.true_eq_false, thr, hB, hS, hN, Bool.false_and, Bool.and_false, Bool.or_true, List.append_nil]
          | false => simp only [exs_cons, exs_nil, ex_set, ex_sef, ex_unp, ex_par, ex_app, ex_ext, ex_six, ex_exp, ex_ret, ex_retv, ex_iff, ex_rse, ex_frz, ev_var, ev_cst, ev_glb, ev_bin, ev_neg, ev_cmp, ev_chn, ev_bo, ev_nt, ev_ite, ev_tup, ev_lst, ev_ix, ev_slc, ev_call, ev_b2, ev_isi, evs_nil, evs_cons, evr_nil, evr_cons, evB_one, evB_cons, pk, peek, nth, put, bindL_nil, bindL_cons, bindR_nil, bindR_cons, frzL, dat_v, dat_l, Res.dat_v, Res.dat_l, okb, exb, List.map_cons, List.map_nil, toI_int, toB_bool, bin_add, bin_sub, cmp_lt, cmp_le, cmp_gt, cmp_ge, cmp_eqi, cmp_nei, cmp_in, cmp_nin, b1_int, b1_lenl, b1_lent, b1_tupl, b1_tupt, b1_lstt, b1_lstl, ix_t0, ix_t1, isi_tup, isi_int, isi_nb, ev_b1v, ev_b1x, ev_b1c, ev_b1f, ev_b1b, ev_b1n, ev_b1t, ev_b1l, ev_b1s, if_true, if_false, Bool.false_eq_true, Bool.not_true, Bool.not_false, Bool.true_eq_false, thr, hB, hS, hN, Bool.or_self, Bool.and_self, hl, ofI_snoc]
    · rw [srcV_call]
      simp only [exs_cons, exs_nil, ex_set, ex_sef, ex_unp, ex_par, ex_app, ex_ext, ex_six, ex_exp, ex_ret, ex_retv, ex_iff, ex_rse, ex_frz, ev_var, ev_cst, ev_glb, ev_bin, ev_neg, ev_cmp, ev_chn, ev_bo, ev_nt, ev_ite, ev_tup, ev_lst, ev_ix, ev_slc, ev_call, ev_b2, ev_isi, evs_nil, evs_cons, evr_nil, evr_cons, evB_one, evB_cons, pk, peek, nth, put, bindL_nil, bindL_cons, bindR_nil, bindR_cons, frzL, dat_v, dat_l, Res.dat_v, Res.dat_l, okb, exb, List.map_cons, List.map_nil, toI_int, toB_bool, bin_add, bin_sub, cmp_lt, cmp_le, cmp_gt, cmp_ge, cmp_eqi, cmp_nei, cmp_in, cmp_nin, b1_int, b1_lenl, b1_lent, b1_tupl, b1_tupt, b1_lstt, b1_lstl, ix_t0, ix_t1, isi_tup, isi_int, isi_nb, ev_b1v, ev_b1x, ev_b1c, ev_b1f, ev_b1b, ev_b1n, ev_b1t, ev_b1l, ev_b1s, if_true, if_false, Bool.false_eq_true, Bool.not_true, Bool.not_false, Bool.true_eq_false, law_beside_ok t.f10 w m]
      rfl
    · simp only [exs_cons, exs_nil, ex_set, ex_sef, ex_unp, ex_par, ex_app, ex_ext, ex_six, ex_exp, ex_ret, ex_retv, ex_iff, ex_rse, ex_frz, ev_var, ev_cst, ev_glb, ev_bin, ev_neg, ev_cmp, ev_chn, ev_bo, ev_nt, ev_ite, ev_tup, ev_lst, ev_ix, ev_slc, ev_call, ev_b2, ev_isi, evs_nil, evs_cons, evr_nil, evr_cons, evB_one, evB_cons, pk, peek, nth, put, bindL_nil, bindL_cons, bindR_nil, bindR_cons, frzL, dat_v, dat_l, Res.dat_v, Res.dat_l, okb, exb, List.map_cons, List.map_nil, toI_int, toB_bool, bin_add, bin_sub, cmp_lt, cmp_le, cmp_gt, cmp_ge, cmp_eqi, cmp_nei, cmp_in, cmp_nin, b1_int, b1_lenl, b1_lent, b1_tupl, b1_tupt, b1_lstt, b1_lstl, ix_t0, ix_t1, isi_tup, isi_int, isi_nb, ev_b1v, ev_b1x, ev_b1c, ev_b1f, ev_b1b, ev_b1n, ev_b1t, ev_b1l, ev_b1s, if_true, if_false, Bool.false_eq_true, Bool.not_true, Bool.not_false, Bool.true_eq_false, ix_sd0, in_tup]
  · rintro r ⟨d, j, j2, hd, rfl⟩
    rw [List.append_nil] at hd
    subst hd
    simp only [exs_cons, exs_nil, ex_set, ex_sef, ex_unp, ex_par, ex_app, ex_ext, ex_six, ex_exp, ex_ret, ex_retv, ex_iff, ex_rse, ex_frz, ev_var, ev_cst, ev_glb, ev_bin, ev_neg, ev_cmp, ev_chn, ev_bo, ev_nt, ev_ite, ev_tup, ev_lst, ev_ix, ev_slc, ev_call, ev_b2, ev_isi, evs_nil, evs_cons, evr_nil, evr_cons, evB_one, evB_cons, pk, peek, nth, put, bindL_nil, bindL_cons, bindR_nil, bindR_cons, frzL, dat_v, dat_l, Res.dat_v, Res.dat_l, okb, exb, List.map_cons, List.map_nil, toI_int, toB_bool, bin_add, bin_sub, cmp_lt, cmp_le, cmp_gt, cmp_ge, cmp_eqi, cmp_nei, cmp_in, cmp_nin, b1_int, b1_lenl, b1_lent, b1_tupl, b1_tupt, b1_lstt, b1_lstl, ix_t0, ix_t1, isi_tup, isi_int, isi_nb, ev_b1v, ev_b1x, ev_b1c, ev_b1f, ev_b1b, ev_b1n, ev_b1t, ev_b1l, ev_b1s, if_true, if_false, Bool.false_eq_true, Bool.not_true, Bool.not_false, Bool.true_eq_false]
theorem law_spread_ok (t : LawSp T) (w : WF n es) (m : Nat) : cal T G (m + 3) 13 [.v (wb n es), .v (sd n B S), .v (.tuple [])] = .ok (.v (sd n (nx n es S B) S)) := by
  rw [cal_eq t.f13 rfl]
  show (exs (cal T G (m + 2)) G 1000 u__law_spread.body [some (.v (wb n es)), some (.v (sd n B S)), some (.v (.tuple []))]).bind _ = _
  have h : cal T G (m + 2) 12 [.v (wb n es), .v (.tuple [.tuple (ofI (st n B)), .tuple (ofI (st n S))])] = .ok (.l (ofI (st n (thr n es S B)))) := law_danger_ok t w m
  have hl : (ofI (st n B)).length + (ofI (st n (thr n es S B))).length ≤ 1000 := by
    have h1 := st_len n B
    have h2 := st_len n (thr n es S B)
    have := w.hi
    rw [ofI_len, ofI_len]
    omega
  have hl2 : (ofI (st n S)).length + ([] : List PyData).length ≤ 1000 := by
    have h1 := st_len n S
    have := w.hi
    rw [ofI_len]
    simp only [List.length_nil]
    omega
  have e0 : isort ltI (st n S) = st n S := isort_sorted_id (st_sorted n S)
  unfold u__law_spread
  dsimp only
  simp only [exs_cons, exs_nil, ex_set, ex_sef, ex_unp, ex_par, ex_app, ex_ext, ex_six, ex_exp, ex_ret, ex_retv, ex_iff, ex_rse, ex_frz, ev_var, ev_cst, ev_glb, ev_bin, ev_neg, ev_cmp, ev_chn, ev_bo, ev_nt, ev_ite, ev_tup, ev_lst, ev_ix, ev_slc, ev_call, ev_b2, ev_isi, evs_nil, evs_cons, evr_nil, evr_cons, evB_one, evB_cons, pk, peek, nth, put, bindL_nil, bindL_cons, bindR_nil, bindR_cons, frzL, dat_v, dat_l, Res.dat_v, Res.dat_l, okb, exb, List.map_cons, List.map_nil, toI_int, toB_bool, bin_add, bin_sub, cmp_lt, cmp_le, cmp_gt, cmp_ge, cmp_eqi, cmp_nei, cmp_in, cmp_nin, b1_int, b1_lenl, b1_lent, b1_tupl, b1_tupt, b1_lstt, b1_lstl, ix_t0, ix_t1, isi_tup, isi_int, isi_nb, ev_b1v, ev_b1x, ev_b1c, ev_b1f, ev_b1b, ev_b1n, ev_b1t, ev_b1l, ev_b1s, if_true, if_false, Bool.false_eq_true, Bool.not_true, Bool.not_false, Bool.true_eq_false, ix_sd0, ix_sd1, bin_addt hl2, List.append_nil, b1_sortT, e0, h, bin_addt hl, ofI_app, spread_list]
  rfl
theorem end_st {k : Nat} (hn : n ≤ 7) (hk : k ≤ 7) (hs : Still n es S (bt n es S B k)) : sd n (bt n es S B k) S = sd n (bt n es S B 7) S := by
  unfold sd
  rw [st_congr fun x h0 h1 => (still_later hs hk x ⟨h0, h1⟩).symm]
theorem left_alone_ok (t : Stands T G) (h47 : nthF T 47 = some u_left_alone) (w : WF n es) (m : Nat) : cal T G (m + 4) 47 [.v (wb n es), .v (sd n B S)] = .ok (.v (sd n (bt n es S B 7) S)) := by
  rw [cal_eq h47 rfl]
  show (exs (cal T G (m + 3)) G 1000 u_left_alone.body [some (.v (wb n es)), some (.v (sd n B S))]).bind _ = _
  have h42 : ∀ k, cal T G (m + 3) 42 [.v (wb n es), .v (sd n (bt n es S B k) S)] = .ok (.l (ofI (st n (thr n es S (bt n es S B k))))) := fun k => threatened_ok t w (m + 1)
  have h44 : ∀ k, cal T G (m + 3) 44 [.v (wb n es), .v (sd n (bt n es S B k) S)] = .ok (.v (sd n (bt n es S B (k + 1)) S)) := fun k => spread_once_ok t w m
  have hhi := w.hi
  unfold u_left_alone
  dsimp only
  simp only [exs_cons, exs_nil, ex_set, ex_sef, ex_unp, ex_par, ex_app, ex_ext, ex_six, ex_exp, ex_ret, ex_retv, ex_iff, ex_rse, ex_frz, ev_var, ev_cst, ev_glb, ev_bin, ev_neg, ev_cmp, ev_chn, ev_bo, ev_nt, ev_ite, ev_tup, ev_lst, ev_ix, ev_slc, ev_call, ev_b2, ev_isi, evs_nil, evs_cons, evr_nil, evr_cons, evB_one, evB_cons, pk, peek, nth, put, bindL_nil, bindL_cons, bindR_nil, bindR_cons, frzL, dat_v, dat_l, Res.dat_v, Res.dat_l, okb, exb, List.map_cons, List.map_nil, toI_int, toB_bool, bin_add, bin_sub, cmp_lt, cmp_le, cmp_gt, cmp_ge, cmp_eqi, cmp_nei, cmp_in, cmp_nin, b1_int, b1_lenl, b1_lent, b1_tupl, b1_tupt, b1_lstt, b1_lstl, ix_t0, ix_t1, isi_tup, isi_int, isi_nb, ev_b1v, ev_b1x, ev_b1c, ev_b1f, ev_b1b, ev_b1n, ev_b1t, ev_b1l, ev_b1s, if_true, if_false, Bool.false_eq_true, Bool.not_true, Bool.not_false, Bool.true_eq_false, O.bind_assoc]
  refine whl_bind (fun u r => ∃ (k : Nat), un n (bt n es S B k) + k ≤ n ∧ u = un n (bt n es S B k) ∧ r = [some (.v (wb n es)), some (.v (sd n (bt n es S B k) S))]) (un n B) (by have := un_le (n := n) (B := B); omega) ⟨0, un_le (n := n) (B := B), rfl, rfl⟩ ?_ ?_
  · rintro u r ⟨k, hk, rfl, rfl⟩
    simp only [exs_cons, exs_nil, ex_set, ex_sef, ex_unp, ex_par, ex_app, ex_ext, ex_six, ex_exp, ex_ret, ex_retv, ex_iff, ex_rse, ex_frz, ev_var, ev_cst, ev_glb, ev_bin, ev_neg, ev_cmp, ev_chn, ev_bo, ev_nt, ev_ite, ev_tup, ev_lst, ev_ix, ev_slc, ev_call, ev_b2, ev_isi, evs_nil, evs_cons, evr_nil, evr_cons, evB_one, evB_cons, pk, peek, nth, put, bindL_nil, bindL_cons, bindR_nil, bindR_cons, frzL, dat_v, dat_l, Res.dat_v, Res.dat_l, okb, exb, List.map_cons, List.map_nil, toI_int, toB_bool, bin_add, bin_sub, cmp_lt, cmp_le, cmp_gt, cmp_ge, cmp_eqi, cmp_nei, cmp_in, cmp_nin, b1_int, b1_lenl, b1_lent, b1_tupl, b1_tupt, b1_lstt, b1_lstl, ix_t0, ix_t1, isi_tup, isi_int, isi_nb, ev_b1v, ev_b1x, ev_b1c, ev_b1f, ev_b1b, ev_b1n, ev_b1t, ev_b1l, ev_b1s, if_true, if_false, Bool.false_eq_true, Bool.not_true, Bool.not_false, Bool.true_eq_false, h42, h44, cmp_ne_nil]
    cases hL : st n (thr n es S (bt n es S B k)) with
    | nil => exact .inl rfl
    | cons b l =>
      have hns : ¬ Still n es S (bt n es S B k) := fun z => by rw [thr_still.mpr z] at hL; cases hL
      have hlt : un n (bt n es S B (k + 1)) < un n (bt n es S B k) := un_lt hns
      exact .inr ⟨rfl, un n (bt n es S B (k + 1)), _, hlt, rfl, k + 1, by omega, rfl, rfl⟩
  · rintro u r ⟨k, hk, rfl, rfl⟩ hf
    simp only [exs_cons, exs_nil, ex_set, ex_sef, ex_unp, ex_par, ex_app, ex_ext, ex_six, ex_exp, ex_ret, ex_retv, ex_iff, ex_rse, ex_frz, ev_var, ev_cst, ev_glb, ev_bin, ev_neg, ev_cmp, ev_chn, ev_bo, ev_nt, ev_ite, ev_tup, ev_lst, ev_ix, ev_slc, ev_call, ev_b2, ev_isi, evs_nil, evs_cons, evr_nil, evr_cons, evB_one, evB_cons, pk, peek, nth, put, bindL_nil, bindL_cons, bindR_nil, bindR_cons, frzL, dat_v, dat_l, Res.dat_v, Res.dat_l, okb, exb, List.map_cons, List.map_nil, toI_int, toB_bool, bin_add, bin_sub, cmp_lt, cmp_le, cmp_gt, cmp_ge, cmp_eqi, cmp_nei, cmp_in, cmp_nin, b1_int, b1_lenl, b1_lent, b1_tupl, b1_tupt, b1_lstt, b1_lstl, ix_t0, ix_t1, isi_tup, isi_int, isi_nb, ev_b1v, ev_b1x, ev_b1c, ev_b1f, ev_b1b, ev_b1n, ev_b1t, ev_b1l, ev_b1s, if_true, if_false, Bool.false_eq_true, Bool.not_true, Bool.not_false, Bool.true_eq_false, h42, cmp_ne_nil] at hf
    have hs : Still n es S (bt n es S B k) := by
      refine thr_still.mp ?_
      cases hL : st n (thr n es S (bt n es S B k)) with
      | nil => rfl
      | cons b l => rw [hL] at hf; cases hf
    simp only [exs_cons, exs_nil, ex_set, ex_sef, ex_unp, ex_par, ex_app, ex_ext, ex_six, ex_exp, ex_ret, ex_retv, ex_iff, ex_rse, ex_frz, ev_var, ev_cst, ev_glb, ev_bin, ev_neg, ev_cmp, ev_chn, ev_bo, ev_nt, ev_ite, ev_tup, ev_lst, ev_ix, ev_slc, ev_call, ev_b2, ev_isi, evs_nil, evs_cons, evr_nil, evr_cons, evB_one, evB_cons, pk, peek, nth, put, bindL_nil, bindL_cons, bindR_nil, bindR_cons, frzL, dat_v, dat_l, Res.dat_v, Res.dat_l, okb, exb, List.map_cons, List.map_nil, toI_int, toB_bool, bin_add, bin_sub, cmp_lt, cmp_le, cmp_gt, cmp_ge, cmp_eqi, cmp_nei, cmp_in, cmp_nin, b1_int, b1_lenl, b1_lent, b1_tupl, b1_tupt, b1_lstt, b1_lstl, ix_t0, ix_t1, isi_tup, isi_int, isi_nb, ev_b1v, ev_b1x, ev_b1c, ev_b1f, ev_b1b, ev_b1n, ev_b1t, ev_b1l, ev_b1s, if_true, if_false, Bool.false_eq_true, Bool.not_true, Bool.not_false, Bool.true_eq_false, end_st hhi (by omega) hs]
theorem law_end_ok (t : LawSp T) (h14 : nthF T 14 = some u__law_end) (w : WF n es) (m : Nat) : cal T G (m + 4) 14 [.v (wb n es), .v (sd n B S)] = .ok (.v (sd n (bt n es S B 7) S)) := by
  rw [cal_eq h14 rfl]
  show (exs (cal T G (m + 3)) G 1000 u__law_end.body [some (.v (wb n es)), some (.v (sd n B S))]).bind _ = _
  have h42 : ∀ k, cal T G (m + 3) 12 [.v (wb n es), .v (sd n (bt n es S B k) S)] = .ok (.l (ofI (st n (thr n es S (bt n es S B k))))) := fun k => law_danger_ok t w (m + 1)
  have h44 : ∀ k, cal T G (m + 3) 13 [.v (wb n es), .v (sd n (bt n es S B k) S), .v (.tuple [])] = .ok (.v (sd n (bt n es S B (k + 1)) S)) := fun k => law_spread_ok t w m
  have hhi := w.hi
  unfold u__law_end
  dsimp only
  simp only [exs_cons, exs_nil, ex_set, ex_sef, ex_unp, ex_par, ex_app, ex_ext, ex_six, ex_exp, ex_ret, ex_retv, ex_iff, ex_rse, ex_frz, ev_var, ev_cst, ev_glb, ev_bin, ev_neg, ev_cmp, ev_chn, ev_bo, ev_nt, ev_ite, ev_tup, ev_lst, ev_ix, ev_slc, ev_call, ev_b2, ev_isi, evs_nil, evs_cons, evr_nil, evr_cons, evB_one, evB_cons, pk, peek, nth, put, bindL_nil, bindL_cons, bindR_nil, bindR_cons, frzL, dat_v, dat_l, Res.dat_v, Res.dat_l, okb, exb, List.map_cons, List.map_nil, toI_int, toB_bool, bin_add, bin_sub, cmp_lt, cmp_le, cmp_gt, cmp_ge, cmp_eqi, cmp_nei, cmp_in, cmp_nin, b1_int, b1_lenl, b1_lent, b1_tupl, b1_tupt, b1_lstt, b1_lstl, ix_t0, ix_t1, isi_tup, isi_int, isi_nb, ev_b1v, ev_b1x, ev_b1c, ev_b1f, ev_b1b, ev_b1n, ev_b1t, ev_b1l, ev_b1s, if_true, if_false, Bool.false_eq_true, Bool.not_true, Bool.not_false, Bool.true_eq_false, O.bind_assoc]
  refine whl_bind (fun u r => ∃ (k : Nat), un n (bt n es S B k) + k ≤ n ∧ u = un n (bt n es S B k) ∧ r = [some (.v (wb n es)), some (.v (sd n (bt n es S B k) S))]) (un n B) (by have := un_le (n := n) (B := B); omega) ⟨0, un_le (n := n) (B := B), rfl, rfl⟩ ?_ ?_
  · rintro u r ⟨k, hk, rfl, rfl⟩
    simp only [exs_cons, exs_nil, ex_set, ex_sef, ex_unp, ex_par, ex_app, ex_ext, ex_six, ex_exp, ex_ret, ex_retv, ex_iff, ex_rse, ex_frz, ev_var, ev_cst, ev_glb, ev_bin, ev_neg, ev_cmp, ev_chn, ev_bo, ev_nt, ev_ite, ev_tup, ev_lst, ev_ix, ev_slc, ev_call, ev_b2, ev_isi, evs_nil, evs_cons, evr_nil, evr_cons, evB_one, evB_cons, pk, peek, nth, put, bindL_nil, bindL_cons, bindR_nil, bindR_cons, frzL, dat_v, dat_l, Res.dat_v, Res.dat_l, okb, exb, List.map_cons, List.map_nil, toI_int, toB_bool, bin_add, bin_sub, cmp_lt, cmp_le, cmp_gt, cmp_ge, cmp_eqi, cmp_nei, cmp_in, cmp_nin, b1_int, b1_lenl, b1_lent, b1_tupl, b1_tupt, b1_lstt, b1_lstl, ix_t0, ix_t1, isi_tup, isi_int, isi_nb, ev_b1v, ev_b1x, ev_b1c, ev_b1f, ev_b1b, ev_b1n, ev_b1t, ev_b1l, ev_b1s, if_true, if_false, Bool.false_eq_true, Bool.not_true, Bool.not_false, Bool.true_eq_false, h42, h44, cmp_ne_nil]
    cases hL : st n (thr n es S (bt n es S B k)) with
    | nil => exact .inl rfl
    | cons b l =>
      have hns : ¬ Still n es S (bt n es S B k) := fun z => by rw [thr_still.mpr z] at hL; cases hL
      have hlt : un n (bt n es S B (k + 1)) < un n (bt n es S B k) := un_lt hns
      exact .inr ⟨rfl, un n (bt n es S B (k + 1)), _, hlt, rfl, k + 1, by omega, rfl, rfl⟩
  · rintro u r ⟨k, hk, rfl, rfl⟩ hf
    simp only [exs_cons, exs_nil, ex_set, ex_sef, ex_unp, ex_par, ex_app, ex_ext, ex_six, ex_exp, ex_ret, ex_retv, ex_iff, ex_rse, ex_frz, ev_var, ev_cst, ev_glb, ev_bin, ev_neg, ev_cmp, ev_chn, ev_bo, ev_nt, ev_ite, ev_tup, ev_lst, ev_ix, ev_slc, ev_call, ev_b2, ev_isi, evs_nil, evs_cons, evr_nil, evr_cons, evB_one, evB_cons, pk, peek, nth, put, bindL_nil, bindL_cons, bindR_nil, bindR_cons, frzL, dat_v, dat_l, Res.dat_v, Res.dat_l, okb, exb, List.map_cons, List.map_nil, toI_int, toB_bool, bin_add, bin_sub, cmp_lt, cmp_le, cmp_gt, cmp_ge, cmp_eqi, cmp_nei, cmp_in, cmp_nin, b1_int, b1_lenl, b1_lent, b1_tupl, b1_tupt, b1_lstt, b1_lstl, ix_t0, ix_t1, isi_tup, isi_int, isi_nb, ev_b1v, ev_b1x, ev_b1c, ev_b1f, ev_b1b, ev_b1n, ev_b1t, ev_b1l, ev_b1s, if_true, if_false, Bool.false_eq_true, Bool.not_true, Bool.not_false, Bool.true_eq_false, h42, cmp_ne_nil] at hf
    have hs : Still n es S (bt n es S B k) := by
      refine thr_still.mp ?_
      cases hL : st n (thr n es S (bt n es S B k)) with
      | nil => rfl
      | cons b l => rw [hL] at hf; cases hf
    simp only [exs_cons, exs_nil, ex_set, ex_sef, ex_unp, ex_par, ex_app, ex_ext, ex_six, ex_exp, ex_ret, ex_retv, ex_iff, ex_rse, ex_frz, ev_var, ev_cst, ev_glb, ev_bin, ev_neg, ev_cmp, ev_chn, ev_bo, ev_nt, ev_ite, ev_tup, ev_lst, ev_ix, ev_slc, ev_call, ev_b2, ev_isi, evs_nil, evs_cons, evr_nil, evr_cons, evB_one, evB_cons, pk, peek, nth, put, bindL_nil, bindL_cons, bindR_nil, bindR_cons, frzL, dat_v, dat_l, Res.dat_v, Res.dat_l, okb, exb, List.map_cons, List.map_nil, toI_int, toB_bool, bin_add, bin_sub, cmp_lt, cmp_le, cmp_gt, cmp_ge, cmp_eqi, cmp_nei, cmp_in, cmp_nin, b1_int, b1_lenl, b1_lent, b1_tupl, b1_tupt, b1_lstt, b1_lstl, ix_t0, ix_t1, isi_tup, isi_int, isi_nb, ev_b1v, ev_b1x, ev_b1c, ev_b1f, ev_b1b, ev_b1n, ev_b1t, ev_b1l, ev_b1s, if_true, if_false, Bool.false_eq_true, Bool.not_true, Bool.not_false, Bool.true_eq_false, end_st hhi (by omega) hs]
theorem law_times_ok (t : LawSp T) (h78 : nthF T 78 = some u__law_times) (w : WF n es) (m : Nat) : cal T G (m + 4) 78 [.v (wb n es), .v (sd n B S)] = .ok (.l (tl n es S B)) := by
  rw [cal_eq h78 rfl]
  show (exs (cal T G (m + 3)) G 1000 u__law_times.body [some (.v (wb n es)), some (.v (sd n B S)), none, none, none]).bind _ = _
  have hn : n ≤ 1000 := by have := w.hi; omega
  have h42 : ∀ k, cal T G (m + 3) 12 [.v (wb n es), .v (sd n (bt n es S B k) S)] = .ok (.l (ofI (st n (thr n es S (bt n es S B k))))) := fun k => law_danger_ok t w (m + 1)
  have h44 : ∀ k, cal T G (m + 3) 13 [.v (wb n es), .v (sd n (bt n es S B k) S), .v (.tuple [])] = .ok (.v (sd n (bt n es S B (k + 1)) S)) := fun k => law_spread_ok t w m
  unfold u__law_times
  dsimp only
  simp only [exs_cons, exs_nil, ex_set, ex_sef, ex_unp, ex_par, ex_app, ex_ext, ex_six, ex_exp, ex_ret, ex_retv, ex_iff, ex_rse, ex_frz, ev_var, ev_cst, ev_glb, ev_bin, ev_neg, ev_cmp, ev_chn, ev_bo, ev_nt, ev_ite, ev_tup, ev_lst, ev_ix, ev_slc, ev_call, ev_b2, ev_isi, evs_nil, evs_cons, evr_nil, evr_cons, evB_one, evB_cons, pk, peek, nth, put, bindL_nil, bindL_cons, bindR_nil, bindR_cons, frzL, dat_v, dat_l, Res.dat_v, Res.dat_l, okb, exb, List.map_cons, List.map_nil, toI_int, toB_bool, bin_add, bin_sub, cmp_lt, cmp_le, cmp_gt, cmp_ge, cmp_eqi, cmp_nei, cmp_in, cmp_nin, b1_int, b1_lenl, b1_lent, b1_tupl, b1_tupt, b1_lstt, b1_lstl, ix_t0, ix_t1, isi_tup, isi_int, isi_nb, ev_b1v, ev_b1x, ev_b1c, ev_b1f, ev_b1b, ev_b1n, ev_b1t, ev_b1l, ev_b1s, if_true, if_false, Bool.false_eq_true, Bool.not_true, Bool.not_false, Bool.true_eq_false, O.bind_assoc]
  rw [comp_rgT (n := n) (e := fun p => td (ftk n es S B 0 p)) hn (by simp only [exs_cons, exs_nil, ex_set, ex_sef, ex_unp, ex_par, ex_app, ex_ext, ex_six, ex_exp, ex_ret, ex_retv, ex_iff, ex_rse, ex_frz, ev_var, ev_cst, ev_glb, ev_bin, ev_neg, ev_cmp, ev_chn, ev_bo, ev_nt, ev_ite, ev_tup, ev_lst, ev_ix, ev_slc, ev_call, ev_b2, ev_isi, evs_nil, evs_cons, evr_nil, evr_cons, evB_one, evB_cons, pk, peek, nth, put, bindL_nil, bindL_cons, bindR_nil, bindR_cons, frzL, dat_v, dat_l, Res.dat_v, Res.dat_l, okb, exb, List.map_cons, List.map_nil, toI_int, toB_bool, bin_add, bin_sub, cmp_lt, cmp_le, cmp_gt, cmp_ge, cmp_eqi, cmp_nei, cmp_in, cmp_nin, b1_int, b1_lenl, b1_lent, b1_tupl, b1_tupt, b1_lstt, b1_lstl, ix_t0, ix_t1, isi_tup, isi_int, isi_nb, ev_b1v, ev_b1x, ev_b1c, ev_b1f, ev_b1b, ev_b1n, ev_b1t, ev_b1l, ev_b1s, if_true, if_false, Bool.false_eq_true, Bool.not_true, Bool.not_false, Bool.true_eq_false, ix_wb0]) (fun x h0 h1 => ?_)]
  · simp only [exs_cons, exs_nil, ex_set, ex_sef, ex_unp, ex_par, ex_app, ex_ext, ex_six, ex_exp, ex_ret, ex_retv, ex_iff, ex_rse, ex_frz, ev_var, ev_cst, ev_glb, ev_bin, ev_neg, ev_cmp, ev_chn, ev_bo, ev_nt, ev_ite, ev_tup, ev_lst, ev_ix, ev_slc, ev_call, ev_b2, ev_isi, evs_nil, evs_cons, evr_nil, evr_cons, evB_one, evB_cons, pk, peek, nth, put, bindL_nil, bindL_cons, bindR_nil, bindR_cons, frzL, dat_v, dat_l, Res.dat_v, Res.dat_l, okb, exb, List.map_cons, List.map_nil, toI_int, toB_bool, bin_add, bin_sub, cmp_lt, cmp_le, cmp_gt, cmp_ge, cmp_eqi, cmp_nei, cmp_in, cmp_nin, b1_int, b1_lenl, b1_lent, b1_tupl, b1_tupt, b1_lstt, b1_lstl, ix_t0, ix_t1, isi_tup, isi_int, isi_nb, ev_b1v, ev_b1x, ev_b1c, ev_b1f, ev_b1b, ev_b1n, ev_b1t, ev_b1l, ev_b1s, if_true, if_false, Bool.false_eq_true, Bool.not_true, Bool.not_false, Bool.true_eq_false]
    refine fr_bind (enc := fun j : Nat => PyData.int (1 + Int.ofNat j)) (xs := List.range 7) (fun xs r => ∃ (k : Nat) (j3 j4 : Option Res), (List.range 7).drop k = xs ∧ k ≤ 7 ∧ r = [some (.v (wb n es)), some (.v (sd n (bt n es S B k) S)), some (.l ((rg n).map fun p => td (ftk n es S B k p))), j3, j4])
      (its_rng2 (i := 1) (k := 8) (by simp only [exs_cons, exs_nil, ex_set, ex_sef, ex_unp, ex_par, ex_app, ex_ext, ex_six, ex_exp, ex_ret, ex_retv, ex_iff, ex_rse, ex_frz, ev_var, ev_cst, ev_glb, ev_bin, ev_neg, ev_cmp, ev_chn, ev_bo, ev_nt, ev_ite, ev_tup, ev_lst, ev_ix, ev_slc, ev_call, ev_b2, ev_isi, evs_nil, evs_cons, evr_nil, evr_cons, evB_one, evB_cons, pk, peek, nth, put, bindL_nil, bindL_cons, bindR_nil, bindR_cons, frzL, dat_v, dat_l, Res.dat_v, Res.dat_l, okb, exb, List.map_cons, List.map_nil, toI_int, toB_bool, bin_add, bin_sub, cmp_lt, cmp_le, cmp_gt, cmp_ge, cmp_eqi, cmp_nei, cmp_in, cmp_nin, b1_int, b1_lenl, b1_lent, b1_tupl, b1_tupt, b1_lstt, b1_lstl, ix_t0, ix_t1, isi_tup, isi_int, isi_nb, ev_b1v, ev_b1x, ev_b1c, ev_b1f, ev_b1b, ev_b1n, ev_b1t, ev_b1l, ev_b1s, if_true, if_false, Bool.false_eq_true, Bool.not_true, Bool.not_false, Bool.true_eq_false]) (by simp only [exs_cons, exs_nil, ex_set, ex_sef, ex_unp, ex_par, ex_app, ex_ext, ex_six, ex_exp, ex_ret, ex_retv, ex_iff, ex_rse, ex_frz, ev_var, ev_cst, ev_glb, ev_bin, ev_neg, ev_cmp, ev_chn, ev_bo, ev_nt, ev_ite, ev_tup, ev_lst, ev_ix, ev_slc, ev_call, ev_b2, ev_isi, evs_nil, evs_cons, evr_nil, evr_cons, evB_one, evB_cons, pk, peek, nth, put, bindL_nil, bindL_cons, bindR_nil, bindR_cons, frzL, dat_v, dat_l, Res.dat_v, Res.dat_l, okb, exb, List.map_cons, List.map_nil, toI_int, toB_bool, bin_add, bin_sub, cmp_lt, cmp_le, cmp_gt, cmp_ge, cmp_eqi, cmp_nei, cmp_in, cmp_nin, b1_int, b1_lenl, b1_lent, b1_tupl, b1_tupt, b1_lstt, b1_lstl, ix_t0, ix_t1, isi_tup, isi_int, isi_nb, ev_b1v, ev_b1x, ev_b1c, ev_b1f, ev_b1b, ev_b1n, ev_b1t, ev_b1l, ev_b1s, if_true, if_false, Bool.false_eq_true, Bool.not_true, Bool.not_false, Bool.true_eq_false]) (by omega) (by omega) (by omega) (by omega)) ⟨0, none, none, rfl, by omega, rfl⟩ ?_ ?_
    · rintro x xs r ⟨k, j3, j4, hd, hk, rfl⟩
      have hk7 : k < 7 := by
        refine Classical.byContradiction fun z => ?_
        rw [List.drop_eq_nil_of_le (by simp; omega)] at hd
        cases hd
      have hx : x = k ∧ xs = (List.range 7).drop (k + 1) := by
        rw [List.drop_eq_getElem_cons (by simpa using hk7)] at hd
        injection hd with h1 h2
        exact ⟨by rw [← h1]; simp, h2.symm⟩
      obtain ⟨rfl, rfl⟩ := hx
      have e1 : (1 : Int) + Int.ofNat x = ((x + 1 : Nat) : Int) := by
        have : Int.ofNat x = (x : Int) := rfl
        omega
      generalize hL : st n (thr n es S (bt n es S B x)) = L at h42
      have hLs := hL
      refine ⟨_, [some (.v (wb n es)), some (.v (sd n (bt n es S B (x + 1)) S)), some (.l ((rg n).map fun p => td (ftk n es S B (x + 1) p))), some (.v (.int ((x + 1 : Nat) : Int))), (match L.getLast? with | some b => some (.v (.int b)) | none => j4)], rfl, ?_, x + 1, _, _, rfl, by omega, rfl⟩
      rw [e1]
      simp only [exs_cons, exs_nil, ex_set, ex_sef, ex_unp, ex_par, ex_app, ex_ext, ex_six, ex_exp, ex_ret, ex_retv, ex_iff, ex_rse, ex_frz, ev_var, ev_cst, ev_glb, ev_bin, ev_neg, ev_cmp, ev_chn, ev_bo, ev_nt, ev_ite, ev_tup, ev_lst, ev_ix, ev_slc, ev_call, ev_b2, ev_isi, evs_nil, evs_cons, evr_nil, evr_cons, evB_one, evB_cons, pk, peek, nth, put, bindL_nil, bindL_cons, bindR_nil, bindR_cons, frzL, dat_v, dat_l, Res.dat_v, Res.dat_l, okb, exb, List.map_cons, List.map_nil, toI_int, toB_bool, bin_add, bin_sub, cmp_lt, cmp_le, cmp_gt, cmp_ge, cmp_eqi, cmp_nei, cmp_in, cmp_nin, b1_int, b1_lenl, b1_lent, b1_tupl, b1_tupt, b1_lstt, b1_lstl, ix_t0, ix_t1, isi_tup, isi_int, isi_nb, ev_b1v, ev_b1x, ev_b1c, ev_b1f, ev_b1b, ev_b1n, ev_b1t, ev_b1l, ev_b1s, if_true, if_false, Bool.false_eq_true, Bool.not_true, Bool.not_false, Bool.true_eq_false]
      refine fr_bind (enc := .int) (xs := L) (fun xs r => ∃ (d : List Int), d ++ xs = L ∧
        r = [some (.v (wb n es)), some (.v (sd n (bt n es S B x) S)), some (.l ((rg n).map fun p => if p ∈ d then .int ((x + 1 : Nat) : Int) else td (ftk n es S B x p))), some (.v (.int ((x + 1 : Nat) : Int))), (match d.getLast? with | some b => some (.v (.int b)) | none => j4)]) ?_ ⟨[], rfl, by simp⟩ ?_ ?_
      · rw [its_call]
        simp only [exs_cons, exs_nil, ex_set, ex_sef, ex_unp, ex_par, ex_app, ex_ext, ex_six, ex_exp, ex_ret, ex_retv, ex_iff, ex_rse, ex_frz, ev_var, ev_cst, ev_glb, ev_bin, ev_neg, ev_cmp, ev_chn, ev_bo, ev_nt, ev_ite, ev_tup, ev_lst, ev_ix, ev_slc, ev_call, ev_b2, ev_isi, evs_nil, evs_cons, evr_nil, evr_cons, evB_one, evB_cons, pk, peek, nth, put, bindL_nil, bindL_cons, bindR_nil, bindR_cons, frzL, dat_v, dat_l, Res.dat_v, Res.dat_l, okb, exb, List.map_cons, List.map_nil, toI_int, toB_bool, bin_add, bin_sub, cmp_lt, cmp_le, cmp_gt, cmp_ge, cmp_eqi, cmp_nei, cmp_in, cmp_nin, b1_int, b1_lenl, b1_lent, b1_tupl, b1_tupt, b1_lstt, b1_lstl, ix_t0, ix_t1, isi_tup, isi_int, isi_nb, ev_b1v, ev_b1x, ev_b1c, ev_b1f, ev_b1b, ev_b1n, ev_b1t, ev_b1l, ev_b1s, if_true, if_false, Bool.false_eq_true, Bool.not_true, Bool.not_false, Bool.true_eq_false, law_danger_ok t w (m + 1), hL]
        rfl
      · rintro y ys r ⟨d, hd, rfl⟩
        have hy : In n y := (mem_st.mp (show y ∈ st n (thr n es S (bt n es S B x)) by rw [hL, ← hd]; simp)).1
        refine ⟨_, _, rfl, ?_, d ++ [y], by simp [hd], rfl⟩
        simp only [exs_cons, exs_nil, ex_set, ex_sef, ex_unp, ex_par, ex_app, ex_ext, ex_six, ex_exp, ex_ret, ex_retv, ex_iff, ex_rse, ex_frz, ev_var, ev_cst, ev_glb, ev_bin, ev_neg, ev_cmp, ev_chn, ev_bo, ev_nt, ev_ite, ev_tup, ev_lst, ev_ix, ev_slc, ev_call, ev_b2, ev_isi, evs_nil, evs_cons, evr_nil, evr_cons, evB_one, evB_cons, pk, peek, nth, put, bindL_nil, bindL_cons, bindR_nil, bindR_cons, frzL, dat_v, dat_l, Res.dat_v, Res.dat_l, okb, exb, List.map_cons, List.map_nil, toI_int, toB_bool, bin_add, bin_sub, cmp_lt, cmp_le, cmp_gt, cmp_ge, cmp_eqi, cmp_nei, cmp_in, cmp_nin, b1_int, b1_lenl, b1_lent, b1_tupl, b1_tupt, b1_lstt, b1_lstl, ix_t0, ix_t1, isi_tup, isi_int, isi_nb, ev_b1v, ev_b1x, ev_b1c, ev_b1f, ev_b1b, ev_b1n, ev_b1t, ev_b1l, ev_b1s, if_true, if_false, Bool.false_eq_true, Bool.not_true, Bool.not_false, Bool.true_eq_false, ixOf_rg hy, set_rg hy, List.mem_append, List.mem_singleton, List.getLast?_append, List.getLast?_singleton, Option.some_or]
        congr 7
        refine List.map_congr_left fun p _ => ?_
        by_cases e : p = y
        · simp [e]
        · simp [e]
      · rintro r ⟨d, hd, rfl⟩
        rw [List.append_nil] at hd
        subst hd
        simp only [exs_cons, exs_nil, ex_set, ex_sef, ex_unp, ex_par, ex_app, ex_ext, ex_six, ex_exp, ex_ret, ex_retv, ex_iff, ex_rse, ex_frz, ev_var, ev_cst, ev_glb, ev_bin, ev_neg, ev_cmp, ev_chn, ev_bo, ev_nt, ev_ite, ev_tup, ev_lst, ev_ix, ev_slc, ev_call, ev_b2, ev_isi, evs_nil, evs_cons, evr_nil, evr_cons, evB_one, evB_cons, pk, peek, nth, put, bindL_nil, bindL_cons, bindR_nil, bindR_cons, frzL, dat_v, dat_l, Res.dat_v, Res.dat_l, okb, exb, List.map_cons, List.map_nil, toI_int, toB_bool, bin_add, bin_sub, cmp_lt, cmp_le, cmp_gt, cmp_ge, cmp_eqi, cmp_nei, cmp_in, cmp_nin, b1_int, b1_lenl, b1_lent, b1_tupl, b1_tupt, b1_lstt, b1_lstl, ix_t0, ix_t1, isi_tup, isi_int, isi_nb, ev_b1v, ev_b1x, ev_b1c, ev_b1f, ev_b1b, ev_b1n, ev_b1t, ev_b1l, ev_b1s, if_true, if_false, Bool.false_eq_true, Bool.not_true, Bool.not_false, Bool.true_eq_false, h44]
        congr 7
        refine List.map_congr_left fun p hp => ?_
        rw [ftk_succ, ← hL]
        by_cases hT : thr n es S (bt n es S B x) p = true
        · rw [if_pos (mem_st.mpr ⟨mem_rg.mp hp, hT⟩), if_pos hT]
        · rw [if_neg (fun z => hT (mem_st.mp z).2), if_neg hT]
    · rintro r ⟨k, j3, j4, hd, hk, rfl⟩
      have hk7 : k = 7 := by
        refine Classical.byContradiction fun z => ?_
        have := congrArg List.length hd
        simp at this
        omega
      subst hk7
      simp only [exs_cons, exs_nil, ex_set, ex_sef, ex_unp, ex_par, ex_app, ex_ext, ex_six, ex_exp, ex_ret, ex_retv, ex_iff, ex_rse, ex_frz, ev_var, ev_cst, ev_glb, ev_bin, ev_neg, ev_cmp, ev_chn, ev_bo, ev_nt, ev_ite, ev_tup, ev_lst, ev_ix, ev_slc, ev_call, ev_b2, ev_isi, evs_nil, evs_cons, evr_nil, evr_cons, evB_one, evB_cons, pk, peek, nth, put, bindL_nil, bindL_cons, bindR_nil, bindR_cons, frzL, dat_v, dat_l, Res.dat_v, Res.dat_l, okb, exb, List.map_cons, List.map_nil, toI_int, toB_bool, bin_add, bin_sub, cmp_lt, cmp_le, cmp_gt, cmp_ge, cmp_eqi, cmp_nei, cmp_in, cmp_nin, b1_int, b1_lenl, b1_lent, b1_tupl, b1_tupt, b1_lstt, b1_lstl, ix_t0, ix_t1, isi_tup, isi_int, isi_nb, ev_b1v, ev_b1x, ev_b1c, ev_b1f, ev_b1b, ev_b1n, ev_b1t, ev_b1l, ev_b1s, if_true, if_false, Bool.false_eq_true, Bool.not_true, Bool.not_false, Bool.true_eq_false]
      rfl
  · have h : decide (x ∈ st n B) = B x := mem_dec ⟨h0, h1⟩
    simp only [ftk_zero]
    cases hB : B x with
    | true => simp only [exs_cons, exs_nil, ex_set, ex_sef, ex_unp, ex_par, ex_app, ex_ext, ex_six, ex_exp, ex_ret, ex_retv, ex_iff, ex_rse, ex_frz, ev_var, ev_cst, ev_glb, ev_bin, ev_neg, ev_cmp, ev_chn, ev_bo, ev_nt, ev_ite, ev_tup, ev_lst, ev_ix, ev_slc, ev_call, ev_b2, ev_isi, evs_nil, evs_cons, evr_nil, evr_cons, evB_one, evB_cons, pk, peek, nth, put, bindL_nil, bindL_cons, bindR_nil, bindR_cons, frzL, dat_v, dat_l, Res.dat_v, Res.dat_l, okb, exb, List.map_cons, List.map_nil, toI_int, toB_bool, bin_add, bin_sub, cmp_lt, cmp_le, cmp_gt, cmp_ge, cmp_eqi, cmp_nei, cmp_in, cmp_nin, b1_int, b1_lenl, b1_lent, b1_tupl, b1_tupt, b1_lstt, b1_lstl, ix_t0, ix_t1, isi_tup, isi_int, isi_nb, ev_b1v, ev_b1x, ev_b1c, ev_b1f, ev_b1b, ev_b1n, ev_b1t, ev_b1l, ev_b1s, if_true, if_false, Bool.false_eq_true, Bool.not_true, Bool.not_false, Bool.true_eq_false, ix_sd0, in_tup, h, hB]
    | false => simp only [exs_cons, exs_nil, ex_set, ex_sef, ex_unp, ex_par, ex_app, ex_ext, ex_six, ex_exp, ex_ret, ex_retv, ex_iff, ex_rse, ex_frz, ev_var, ev_cst, ev_glb, ev_bin, ev_neg, ev_cmp, ev_chn, ev_bo, ev_nt, ev_ite, ev_tup, ev_lst, ev_ix, ev_slc, ev_call, ev_b2, ev_isi, evs_nil, evs_cons, evr_nil, evr_cons, evB_one, evB_cons, pk, peek, nth, put, bindL_nil, bindL_cons, bindR_nil, bindR_cons, frzL, dat_v, dat_l, Res.dat_v, Res.dat_l, okb, exb, List.map_cons, List.map_nil, toI_int, toB_bool, bin_add, bin_sub, cmp_lt, cmp_le, cmp_gt, cmp_ge, cmp_eqi, cmp_nei, cmp_in, cmp_nin, b1_int, b1_lenl, b1_lent, b1_tupl, b1_tupt, b1_lstt, b1_lstl, ix_t0, ix_t1, isi_tup, isi_int, isi_nb, ev_b1v, ev_b1x, ev_b1c, ev_b1f, ev_b1b, ev_b1n, ev_b1t, ev_b1l, ev_b1s, if_true, if_false, Bool.false_eq_true, Bool.not_true, Bool.not_false, Bool.true_eq_false, ix_sd0, in_tup, h, hB]
end
end HF

set_option Elab.async false
set_option linter.all false
set_option maxRecDepth 100000
set_option maxHeartbeats 4000000
/-! ### GF: fronts, safe places, sources -/
namespace HF
open PySem
theorem cmp_is (a : PyData) : cmpD .is a .none = .ok (isNoneD a) := by cases a <;> rfl
theorem cmp_isn (a : PyData) : cmpD .isn a .none = .ok (!isNoneD a) := by cases a <;> rfl
theorem none_td (o : Option Nat) : isNoneD (td o) = o.isNone := by cases o <;> rfl
theorem pl_td (o : Option Nat) (k : Nat) : pl k (td o) = true := by cases o <;> cases k <;> rfl
theorem plA_map {α : Type} {f : α → PyData} {k : Nat} : ∀ {l : List α}, (∀ x ∈ l, pl k (f x) = true) → plA k (l.map f) = true
  | [], _ => rfl
  | x :: l, h => by
    simp only [List.map_cons, plA, h x List.mem_cons_self, plA_map fun y hy => h y (List.mem_cons_of_mem _ hy), Bool.and_self]
theorem td_inj {a b : Option Nat} (h : td a = td b) : a = b := by
  cases a <;> cases b
  · rfl
  · cases h
  · cases h
  · simp only [td, PyData.int.injEq] at h
    rw [show (_ : Nat) = _ from Int.ofNat.inj h]
theorem cmp_td (a b : Option Nat) : cmpD .eq (td a) (td b) = .ok (decide (a = b)) := by
  rw [cmp_eq_pl (pl_td a 0) (pl_td b 0) (by omega)]
  congr 1
  rw [Bool.eq_iff_iff, pl_eqv _ _ 0 (pl_td a 0) (pl_td b 0), decide_eq_true_eq]
  exact ⟨td_inj, fun h => by rw [h]⟩
theorem cmp_tdi (a : Option Nat) (k : Nat) : cmpD .eq (td a) (.int (k : Int)) = .ok (decide (a = some k)) := cmp_td a (some k)
theorem max_ok : ∀ (l : List Int) (m : Int), (maxI m l = m ∨ maxI m l ∈ l) ∧ m ≤ maxI m l ∧ ∀ b ∈ l, b ≤ maxI m l := by
  intro l
  induction l with
  | nil => intro m; exact ⟨.inl rfl, Int.le_refl _, by simp⟩
  | cons x l ih =>
    intro m
    simp only [maxI]
    obtain ⟨h1, h2, h3⟩ := ih (if m < x then x else m)
    refine ⟨?_, ?_, ?_⟩
    · rcases h1 with h | h
      · rw [h]
        split
        · exact .inr (by simp)
        · exact .inl rfl
      · exact .inr (List.mem_cons_of_mem _ h)
    · exact Int.le_trans (by split <;> omega) h2
    · intro b hb
      rcases List.mem_cons.mp hb with z | z
      · rw [z]
        exact Int.le_trans (by split <;> omega) h2
      · exact h3 b z
section
variable {n : Nat} {es : List (Int × Int)} {B S : Int → Bool}
theorem ft_cg {B' S' : Int → Bool} (hB : ∀ p, In n p → B p = B' p) (hS : ∀ p, In n p → S p = S' p) {p : Int} (hp : In n p) : ft n es S B p = ft n es S' B' p := by
  have : (fun k => bt n es S B k p) = fun k => bt n es S' B' k p := funext fun k => bt_cg hB hS k p hp
  unfold ft
  rw [this]
def mxI (n : Nat) (es : List (Int × Int)) (S B : Int → Bool) : Int := maxI 0 (((rg n).filter fun p => (ft n es S B p).isSome).map fun p => (((ft n es S B p).getD 0 : Nat) : Int))
/-- in how many turns it spreads -/
def mx (n : Nat) (es : List (Int × Int)) (S B : Int → Bool) : Nat := (mxI n es S B).toNat
theorem mx_int : mxI n es S B = (mx n es S B : Nat) := by
  have := (max_ok (((rg n).filter fun p => (ft n es S B p).isSome).map fun p => (((ft n es S B p).getD 0 : Nat) : Int)) 0).2.1
  unfold mx
  unfold mxI at *
  omega
theorem mx_ge {p : Int} {k : Nat} (hp : In n p) (h : ft n es S B p = some k) : k ≤ mx n es S B := by
  have := (max_ok (((rg n).filter fun p => (ft n es S B p).isSome).map fun p => (((ft n es S B p).getD 0 : Nat) : Int)) 0).2.2 (k : Int) (List.mem_map.mpr ⟨p, List.mem_filter.mpr ⟨mem_rg.mpr hp, by rw [h]; rfl⟩, by rw [h]; rfl⟩)
  have e := mx_int (n := n) (es := es) (S := S) (B := B)
  unfold mxI at e
  omega
theorem mx_at : mx n es S B = 0 ∨ ∃ p, In n p ∧ ft n es S B p = some (mx n es S B) := by
  have e := mx_int (n := n) (es := es) (S := S) (B := B)
  rcases (max_ok (((rg n).filter fun p => (ft n es S B p).isSome).map fun p => (((ft n es S B p).getD 0 : Nat) : Int)) 0).1 with h | h
  · left
    unfold mxI at e
    omega
  · right
    obtain ⟨p, hp, q⟩ := List.mem_map.mp h
    obtain ⟨h1, h2⟩ := List.mem_filter.mp hp
    refine ⟨p, mem_rg.mp h1, ?_⟩
    cases z : ft n es S B p with
    | none => rw [z] at h2; cases h2
    | some k =>
      rw [z] at q
      have : (k : Int) = mxI n es S B := q
      rw [e] at this
      congr 1
      omega
theorem mx_le : mx n es S B ≤ 7 := by
  rcases mx_at (n := n) (es := es) (S := S) (B := B) with h | ⟨p, hp, h⟩
  · omega
  · have := (ft_some.mp h).1
    omega
/-- those that burn in a turn -/
def fq (n : Nat) (es : List (Int × Int)) (S B : Int → Bool) (k : Nat) : List Int := st n fun p => decide (ft n es S B p = some k)
theorem fq_ne {k : Nat} : fq n es S B k ≠ [] ↔ ∃ p, In n p ∧ ft n es S B p = some k := by
  constructor
  · intro h
    cases q : fq n es S B k with
    | nil => exact absurd q h
    | cons a l =>
      have ha : a ∈ fq n es S B k := by rw [q]; simp
      obtain ⟨h1, h2⟩ := mem_st.mp ha
      exact ⟨a, h1, of_decide_eq_true h2⟩
  · rintro ⟨p, hp, h⟩ z
    have : p ∈ fq n es S B k := mem_st.mpr ⟨hp, decide_eq_true h⟩
    rw [z] at this
    simp at this
theorem ft_new {k : Nat} {p : Int} (hk : k + 1 < 8) (h1 : bt n es S B (k + 1) p = true) (h2 : bt n es S B k p = false) : ft n es S B p = some (k + 1) := by
  refine ft_some.mpr ⟨hk, h1, fun j hj => ?_⟩
  cases q : bt n es S B j p with
  | false => rfl
  | true => rw [bt_mono (by omega) q] at h2; cases h2
theorem fq_iff {k : Nat} : fq n es S B (k + 1) ≠ [] ↔ k < mx n es S B := by
  constructor
  · intro h
    obtain ⟨p, hp, h⟩ := fq_ne.mp h
    have := mx_ge hp h
    omega
  · intro h hn
    have hle := mx_le (n := n) (es := es) (S := S) (B := B)
    have hs : Still n es S (bt n es S B k) := fun p hp => by
      refine bool_ext (fun h1 => ?_) fun h1 => bt_up h1
      cases q : bt n es S B k p with
      | true => rfl
      | false => exact absurd (fq_ne.mpr ⟨p, hp, ft_new (by omega) h1 q⟩) (fun z => z hn)
    rcases mx_at (n := n) (es := es) (S := S) (B := B) with z | ⟨p, hp, z⟩
    · omega
    · obtain ⟨_, h2, h3⟩ := ft_some.mp z
      rw [still_later hs (by omega) p hp, h3 k h] at h2
      cases h2
def rowsL (n : Nat) (es : List (Int × Int)) (S B : Int → Bool) : List PyData := (List.range (mx n es S B)).map fun j => .list (ofI (fq n es S B (j + 1)))
theorem pl_tl : pl 1 (.list (tl n es S B)) = true := by
  show plA 0 _ = true
  exact plA_map fun p _ => pl_td _ 0
theorem pl_rows : pl 2 (.list (rowsL n es S B)) = true := by
  show plA 1 _ = true
  exact plA_map fun p _ => pl_ofI _ 0
def srcs (n : Nat) (es : List (Int × Int)) (S B : Int → Bool) (p : Int) : List Int := if (ft n es S B p).isNone = true then [] else (st n B).filter fun b => decide (ft n es S (fun q => decide (q = b)) p = ft n es S B p)
end
section
variable {T : List Fn} {G : List PyData} {n : Nat} {es : List (Int × Int)} {B S : Int → Bool}
theorem ix_tl {k : Int} (h : In n k) : ixD (.list (tl n es S B)) (.int k) = .ok (td (ft n es S B k)) := ix_rg h.1 h.2
theorem safe_places_ok (t : Times T G) (h76 : nthF T 76 = some u_safe_places) (w : WF n es) (dj : ∀ p, In n p → B p = true → S p = false) (m : Nat) : cal T G (m + 8) 76 [.v (wb n es), .v (sd n B S)] = .ok (.l (ofI (st n fun p => (ft n es S B p).isNone))) := by
  rw [cal_eq h76 rfl]
  show (exs (cal T G (m + 7)) G 1000 u_safe_places.body [some (.v (wb n es)), some (.v (sd n B S)), none, none]).bind _ = _
  have hn : n ≤ 1000 := by have := w.hi; omega
  unfold u_safe_places
  dsimp only
  simp only [exs_cons, exs_nil, ex_set, ex_sef, ex_unp, ex_par, ex_app, ex_ext, ex_six, ex_exp, ex_ret, ex_retv, ex_iff, ex_rse, ex_frz, ev_var, ev_cst, ev_glb, ev_bin, ev_neg, ev_cmp, ev_chn, ev_bo, ev_nt, ev_ite, ev_tup, ev_lst, ev_ix, ev_slc, ev_call, ev_b2, ev_isi, evs_nil, evs_cons, evr_nil, evr_cons, evB_one, evB_cons, pk, peek, nth, put, bindL_nil, bindL_cons, bindR_nil, bindR_cons, frzL, dat_v, dat_l, Res.dat_v, Res.dat_l, okb, exb, List.map_cons, List.map_nil, toI_int, toB_bool, bin_add, bin_sub, cmp_lt, cmp_le, cmp_gt, cmp_ge, cmp_eqi, cmp_nei, cmp_in, cmp_nin, b1_int, b1_lenl, b1_lent, b1_tupl, b1_tupt, b1_lstt, b1_lstl, ix_t0, ix_t1, isi_tup, isi_int, isi_nb, ev_b1v, ev_b1x, ev_b1c, ev_b1f, ev_b1b, ev_b1n, ev_b1t, ev_b1l, ev_b1s, if_true, if_false, Bool.false_eq_true, Bool.not_true, Bool.not_false, Bool.true_eq_false, burn_times_ok t w dj m]
  rw [comp_rg (n := n) (c := fun p => (ft n es S B p).isNone) (e := fun p => .int p) hn (by simp only [exs_cons, exs_nil, ex_set, ex_sef, ex_unp, ex_par, ex_app, ex_ext, ex_six, ex_exp, ex_ret, ex_retv, ex_iff, ex_rse, ex_frz, ev_var, ev_cst, ev_glb, ev_bin, ev_neg, ev_cmp, ev_chn, ev_bo, ev_nt, ev_ite, ev_tup, ev_lst, ev_ix, ev_slc, ev_call, ev_b2, ev_isi, evs_nil, evs_cons, evr_nil, evr_cons, evB_one, evB_cons, pk, peek, nth, put, bindL_nil, bindL_cons, bindR_nil, bindR_cons, frzL, dat_v, dat_l, Res.dat_v, Res.dat_l, okb, exb, List.map_cons, List.map_nil, toI_int, toB_bool, bin_add, bin_sub, cmp_lt, cmp_le, cmp_gt, cmp_ge, cmp_eqi, cmp_nei, cmp_in, cmp_nin, b1_int, b1_lenl, b1_lent, b1_tupl, b1_tupt, b1_lstt, b1_lstl, ix_t0, ix_t1, isi_tup, isi_int, isi_nb, ev_b1v, ev_b1x, ev_b1c, ev_b1f, ev_b1b, ev_b1n, ev_b1t, ev_b1l, ev_b1s, if_true, if_false, Bool.false_eq_true, Bool.not_true, Bool.not_false, Bool.true_eq_false, ix_wb0]) (fun x x0 x1 => by simp only [exs_cons, exs_nil, ex_set, ex_sef, ex_unp, ex_par, ex_app, ex_ext, ex_six, ex_exp, ex_ret, ex_retv, ex_iff, ex_rse, ex_frz, ev_var, ev_cst, ev_glb, ev_bin, ev_neg, ev_cmp, ev_chn, ev_bo, ev_nt, ev_ite, ev_tup, ev_lst, ev_ix, ev_slc, ev_call, ev_b2, ev_isi, evs_nil, evs_cons, evr_nil, evr_cons, evB_one, evB_cons, pk, peek, nth, put, bindL_nil, bindL_cons, bindR_nil, bindR_cons, frzL, dat_v, dat_l, Res.dat_v, Res.dat_l, okb, exb, List.map_cons, List.map_nil, toI_int, toB_bool, bin_add, bin_sub, cmp_lt, cmp_le, cmp_gt, cmp_ge, cmp_eqi, cmp_nei, cmp_in, cmp_nin, b1_int, b1_lenl, b1_lent, b1_tupl, b1_tupt, b1_lstt, b1_lstl, ix_t0, ix_t1, isi_tup, isi_int, isi_nb, ev_b1v, ev_b1x, ev_b1c, ev_b1f, ev_b1b, ev_b1n, ev_b1t, ev_b1l, ev_b1s, if_true, if_false, Bool.false_eq_true, Bool.not_true, Bool.not_false, Bool.true_eq_false, ix_tl ⟨x0, x1⟩, cmp_is, none_td]) (fun x x0 x1 _ => by simp only [exs_cons, exs_nil, ex_set, ex_sef, ex_unp, ex_par, ex_app, ex_ext, ex_six, ex_exp, ex_ret, ex_retv, ex_iff, ex_rse, ex_frz, ev_var, ev_cst, ev_glb, ev_bin, ev_neg, ev_cmp, ev_chn, ev_bo, ev_nt, ev_ite, ev_tup, ev_lst, ev_ix, ev_slc, ev_call, ev_b2, ev_isi, evs_nil, evs_cons, evr_nil, evr_cons, evB_one, evB_cons, pk, peek, nth, put, bindL_nil, bindL_cons, bindR_nil, bindR_cons, frzL, dat_v, dat_l, Res.dat_v, Res.dat_l, okb, exb, List.map_cons, List.map_nil, toI_int, toB_bool, bin_add, bin_sub, cmp_lt, cmp_le, cmp_gt, cmp_ge, cmp_eqi, cmp_nei, cmp_in, cmp_nin, b1_int, b1_lenl, b1_lent, b1_tupl, b1_tupt, b1_lstt, b1_lstl, ix_t0, ix_t1, isi_tup, isi_int, isi_nb, ev_b1v, ev_b1x, ev_b1c, ev_b1f, ev_b1b, ev_b1n, ev_b1t, ev_b1l, ev_b1s, if_true, if_false, Bool.false_eq_true, Bool.not_true, Bool.not_false, Bool.true_eq_false])]
  rfl
theorem fronts_ok (t : Times T G) (h74 : nthF T 74 = some u_fronts) (w : WF n es) (dj : ∀ p, In n p → B p = true → S p = false) (m : Nat) : cal T G (m + 8) 74 [.v (wb n es), .v (sd n B S)] = .ok (.l (rowsL n es S B)) := by
  rw [cal_eq h74 rfl]
  show (exs (cal T G (m + 7)) G 1000 u_fronts.body [some (.v (wb n es)), some (.v (sd n B S)), none, none, none, none, none]).bind _ = _
  have hn : n ≤ 1000 := by have := w.hi; omega
  have hle := mx_le (n := n) (es := es) (S := S) (B := B)
  unfold u_fronts
  dsimp only
  simp only [exs_cons, exs_nil, ex_set, ex_sef, ex_unp, ex_par, ex_app, ex_ext, ex_six, ex_exp, ex_ret, ex_retv, ex_iff, ex_rse, ex_frz, ev_var, ev_cst, ev_glb, ev_bin, ev_neg, ev_cmp, ev_chn, ev_bo, ev_nt, ev_ite, ev_tup, ev_lst, ev_ix, ev_slc, ev_call, ev_b2, ev_isi, evs_nil, evs_cons, evr_nil, evr_cons, evB_one, evB_cons, pk, peek, nth, put, bindL_nil, bindL_cons, bindR_nil, bindR_cons, frzL, dat_v, dat_l, Res.dat_v, Res.dat_l, okb, exb, List.map_cons, List.map_nil, toI_int, toB_bool, bin_add, bin_sub, cmp_lt, cmp_le, cmp_gt, cmp_ge, cmp_eqi, cmp_nei, cmp_in, cmp_nin, b1_int, b1_lenl, b1_lent, b1_tupl, b1_tupt, b1_lstt, b1_lstl, ix_t0, ix_t1, isi_tup, isi_int, isi_nb, ev_b1v, ev_b1x, ev_b1c, ev_b1f, ev_b1b, ev_b1n, ev_b1t, ev_b1l, ev_b1s, if_true, if_false, Bool.false_eq_true, Bool.not_true, Bool.not_false, Bool.true_eq_false, burn_times_ok t w dj m]
  rw [ev_comp (xs := rg n) (enc := fun p => td (ft n es S B p)) (fun p => [some (.v (wb n es)), some (.v (sd n B S)), some (.v (.list (tl n es S B))), none, none, none, some (.v (td (ft n es S B p)))]) (fun p => (ft n es S B p).isSome) (fun p => .int (((ft n es S B p).getD 0 : Nat) : Int)) (by rfl) (fun p _ => rfl)
    (fun p _ => by
      simp only [exs_cons, exs_nil, ex_set, ex_sef, ex_unp, ex_par, ex_app, ex_ext, ex_six, ex_exp, ex_ret, ex_retv, ex_iff, ex_rse, ex_frz, ev_var, ev_cst, ev_glb, ev_bin, ev_neg, ev_cmp, ev_chn, ev_bo, ev_nt, ev_ite, ev_tup, ev_lst, ev_ix, ev_slc, ev_call, ev_b2, ev_isi, evs_nil, evs_cons, evr_nil, evr_cons, evB_one, evB_cons, pk, peek, nth, put, bindL_nil, bindL_cons, bindR_nil, bindR_cons, frzL, dat_v, dat_l, Res.dat_v, Res.dat_l, okb, exb, List.map_cons, List.map_nil, toI_int, toB_bool, bin_add, bin_sub, cmp_lt, cmp_le, cmp_gt, cmp_ge, cmp_eqi, cmp_nei, cmp_in, cmp_nin, b1_int, b1_lenl, b1_lent, b1_tupl, b1_tupt, b1_lstt, b1_lstl, ix_t0, ix_t1, isi_tup, isi_int, isi_nb, ev_b1v, ev_b1x, ev_b1c, ev_b1f, ev_b1b, ev_b1n, ev_b1t, ev_b1l, ev_b1s, if_true, if_false, Bool.false_eq_true, Bool.not_true, Bool.not_false, Bool.true_eq_false, cmp_isn, none_td]
      cases ft n es S B p <;> rfl)
    (fun p _ h => by
      simp only [exs_cons, exs_nil, ex_set, ex_sef, ex_unp, ex_par, ex_app, ex_ext, ex_six, ex_exp, ex_ret, ex_retv, ex_iff, ex_rse, ex_frz, ev_var, ev_cst, ev_glb, ev_bin, ev_neg, ev_cmp, ev_chn, ev_bo, ev_nt, ev_ite, ev_tup, ev_lst, ev_ix, ev_slc, ev_call, ev_b2, ev_isi, evs_nil, evs_cons, evr_nil, evr_cons, evB_one, evB_cons, pk, peek, nth, put, bindL_nil, bindL_cons, bindR_nil, bindR_cons, frzL, dat_v, dat_l, Res.dat_v, Res.dat_l, okb, exb, List.map_cons, List.map_nil, toI_int, toB_bool, bin_add, bin_sub, cmp_lt, cmp_le, cmp_gt, cmp_ge, cmp_eqi, cmp_nei, cmp_in, cmp_nin, b1_int, b1_lenl, b1_lent, b1_tupl, b1_tupt, b1_lstt, b1_lstl, ix_t0, ix_t1, isi_tup, isi_int, isi_nb, ev_b1v, ev_b1x, ev_b1c, ev_b1f, ev_b1b, ev_b1n, ev_b1t, ev_b1l, ev_b1s, if_true, if_false, Bool.false_eq_true, Bool.not_true, Bool.not_false, Bool.true_eq_false]
      cases q : ft n es S B p with
      | none => rw [q] at h; cases h
      | some k => rfl)]
  have e1 : (((rg n).filter fun p => (ft n es S B p).isSome).map fun p => PyData.int (((ft n es S B p).getD 0 : Nat) : Int)) = ofI (((rg n).filter fun p => (ft n es S B p).isSome).map fun p => (((ft n es S B p).getD 0 : Nat) : Int)) := by
    unfold ofI
    rw [List.map_map]
    rfl
  rw [e1]
  have hlen : ([PyData.int 0]).length + (ofI (((rg n).filter fun p => (ft n es S B p).isSome).map fun p => (((ft n es S B p).getD 0 : Nat) : Int))).length ≤ 1000 := by
    have := List.length_filter_le (fun p => (ft n es S B p).isSome) (rg n)
    rw [rg_length] at this
    have := w.hi
    rw [ofI_len, List.length_map]
    simp only [List.length_cons, List.length_nil]
    omega
  have e2 : [PyData.int 0] ++ ofI (((rg n).filter fun p => (ft n es S B p).isSome).map fun p => (((ft n es S B p).getD 0 : Nat) : Int)) = ofI (0 :: (((rg n).filter fun p => (ft n es S B p).isSome).map fun p => (((ft n es S B p).getD 0 : Nat) : Int))) := rfl
  have e3 : b1D .max (.list (ofI (0 :: (((rg n).filter fun p => (ft n es S B p).isSome).map fun p => (((ft n es S B p).getD 0 : Nat) : Int))))) = .ok (.v (.int ((mx n es S B : Nat) : Int))) := by
    rw [← mx_int]
    simp only [b1D, intsD_of]
    rfl
  simp only [exs_cons, exs_nil, ex_set, ex_sef, ex_unp, ex_par, ex_app, ex_ext, ex_six, ex_exp, ex_ret, ex_retv, ex_iff, ex_rse, ex_frz, ev_var, ev_cst, ev_glb, ev_bin, ev_neg, ev_cmp, ev_chn, ev_bo, ev_nt, ev_ite, ev_tup, ev_lst, ev_ix, ev_slc, ev_call, ev_b2, ev_isi, evs_nil, evs_cons, evr_nil, evr_cons, evB_one, evB_cons, pk, peek, nth, put, bindL_nil, bindL_cons, bindR_nil, bindR_cons, frzL, dat_v, dat_l, Res.dat_v, Res.dat_l, okb, exb, List.map_cons, List.map_nil, toI_int, toB_bool, bin_add, bin_sub, cmp_lt, cmp_le, cmp_gt, cmp_ge, cmp_eqi, cmp_nei, cmp_in, cmp_nin, b1_int, b1_lenl, b1_lent, b1_tupl, b1_tupt, b1_lstt, b1_lstl, ix_t0, ix_t1, isi_tup, isi_int, isi_nb, ev_b1v, ev_b1x, ev_b1c, ev_b1f, ev_b1b, ev_b1n, ev_b1t, ev_b1l, ev_b1s, if_true, if_false, Bool.false_eq_true, Bool.not_true, Bool.not_false, Bool.true_eq_false, bin_addl hlen, e2, e3]
  rw [ev_comp (xs := List.range (mx n es S B)) (enc := fun j : Nat => PyData.int (1 + Int.ofNat j)) (fun j => [some (.v (wb n es)), some (.v (sd n B S)), some (.v (.list (tl n es S B))), some (.v (.int ((mx n es S B : Nat) : Int))), some (.v (.int (1 + Int.ofNat j))), none, none]) (fun _ => true) (fun j => .list (ofI (fq n es S B (j + 1)))) ?_ (fun j _ => rfl) (fun j _ => by simp only [exs_cons, exs_nil, ex_set, ex_sef, ex_unp, ex_par, ex_app, ex_ext, ex_six, ex_exp, ex_ret, ex_retv, ex_iff, ex_rse, ex_frz, ev_var, ev_cst, ev_glb, ev_bin, ev_neg, ev_cmp, ev_chn, ev_bo, ev_nt, ev_ite, ev_tup, ev_lst, ev_ix, ev_slc, ev_call, ev_b2, ev_isi, evs_nil, evs_cons, evr_nil, evr_cons, evB_one, evB_cons, pk, peek, nth, put, bindL_nil, bindL_cons, bindR_nil, bindR_cons, frzL, dat_v, dat_l, Res.dat_v, Res.dat_l, okb, exb, List.map_cons, List.map_nil, toI_int, toB_bool, bin_add, bin_sub, cmp_lt, cmp_le, cmp_gt, cmp_ge, cmp_eqi, cmp_nei, cmp_in, cmp_nin, b1_int, b1_lenl, b1_lent, b1_tupl, b1_tupt, b1_lstt, b1_lstl, ix_t0, ix_t1, isi_tup, isi_int, isi_nb, ev_b1v, ev_b1x, ev_b1c, ev_b1f, ev_b1b, ev_b1n, ev_b1t, ev_b1l, ev_b1s, if_true, if_false, Bool.false_eq_true, Bool.not_true, Bool.not_false, Bool.true_eq_false]) (fun j _ _ => ?_)]
  · rw [filt_true]
    rfl
  · have e : ∀ (cl : Nat → List Res → O Res) (a b : E) (r : Env), srcV cl G (.rng2 a b) r = its cl G (.rng2 a b) r := fun cl a b r => rfl
    rw [e, its_rng2 (i := 1) (k := ((mx n es S B : Nat) : Int) + 1) (by simp only [exs_cons, exs_nil, ex_set, ex_sef, ex_unp, ex_par, ex_app, ex_ext, ex_six, ex_exp, ex_ret, ex_retv, ex_iff, ex_rse, ex_frz, ev_var, ev_cst, ev_glb, ev_bin, ev_neg, ev_cmp, ev_chn, ev_bo, ev_nt, ev_ite, ev_tup, ev_lst, ev_ix, ev_slc, ev_call, ev_b2, ev_isi, evs_nil, evs_cons, evr_nil, evr_cons, evB_one, evB_cons, pk, peek, nth, put, bindL_nil, bindL_cons, bindR_nil, bindR_cons, frzL, dat_v, dat_l, Res.dat_v, Res.dat_l, okb, exb, List.map_cons, List.map_nil, toI_int, toB_bool, bin_add, bin_sub, cmp_lt, cmp_le, cmp_gt, cmp_ge, cmp_eqi, cmp_nei, cmp_in, cmp_nin, b1_int, b1_lenl, b1_lent, b1_tupl, b1_tupt, b1_lstt, b1_lstl, ix_t0, ix_t1, isi_tup, isi_int, isi_nb, ev_b1v, ev_b1x, ev_b1c, ev_b1f, ev_b1b, ev_b1n, ev_b1t, ev_b1l, ev_b1s, if_true, if_false, Bool.false_eq_true, Bool.not_true, Bool.not_false, Bool.true_eq_false]) (by simp only [exs_cons, exs_nil, ex_set, ex_sef, ex_unp, ex_par, ex_app, ex_ext, ex_six, ex_exp, ex_ret, ex_retv, ex_iff, ex_rse, ex_frz, ev_var, ev_cst, ev_glb, ev_bin, ev_neg, ev_cmp, ev_chn, ev_bo, ev_nt, ev_ite, ev_tup, ev_lst, ev_ix, ev_slc, ev_call, ev_b2, ev_isi, evs_nil, evs_cons, evr_nil, evr_cons, evB_one, evB_cons, pk, peek, nth, put, bindL_nil, bindL_cons, bindR_nil, bindR_cons, frzL, dat_v, dat_l, Res.dat_v, Res.dat_l, okb, exb, List.map_cons, List.map_nil, toI_int, toB_bool, bin_add, bin_sub, cmp_lt, cmp_le, cmp_gt, cmp_ge, cmp_eqi, cmp_nei, cmp_in, cmp_nin, b1_int, b1_lenl, b1_lent, b1_tupl, b1_tupt, b1_lstt, b1_lstl, ix_t0, ix_t1, isi_tup, isi_int, isi_nb, ev_b1v, ev_b1x, ev_b1c, ev_b1f, ev_b1b, ev_b1n, ev_b1t, ev_b1l, ev_b1s, if_true, if_false, Bool.false_eq_true, Bool.not_true, Bool.not_false, Bool.true_eq_false]) (by omega) (by omega) (by omega) (by omega)]
    rw [show ((mx n es S B : Nat) : Int) + 1 - 1 = ((mx n es S B : Nat) : Int) from by omega, Int.toNat_natCast]
  · have e1 : (1 : Int) + Int.ofNat j = ((j + 1 : Nat) : Int) := by
      have : Int.ofNat j = (j : Int) := rfl
      omega
    rw [e1, comp_rg (n := n) (c := fun p => decide (ft n es S B p = some (j + 1))) (e := fun p => .int p) hn (by simp only [exs_cons, exs_nil, ex_set, ex_sef, ex_unp, ex_par, ex_app, ex_ext, ex_six, ex_exp, ex_ret, ex_retv, ex_iff, ex_rse, ex_frz, ev_var, ev_cst, ev_glb, ev_bin, ev_neg, ev_cmp, ev_chn, ev_bo, ev_nt, ev_ite, ev_tup, ev_lst, ev_ix, ev_slc, ev_call, ev_b2, ev_isi, evs_nil, evs_cons, evr_nil, evr_cons, evB_one, evB_cons, pk, peek, nth, put, bindL_nil, bindL_cons, bindR_nil, bindR_cons, frzL, dat_v, dat_l, Res.dat_v, Res.dat_l, okb, exb, List.map_cons, List.map_nil, toI_int, toB_bool, bin_add, bin_sub, cmp_lt, cmp_le, cmp_gt, cmp_ge, cmp_eqi, cmp_nei, cmp_in, cmp_nin, b1_int, b1_lenl, b1_lent, b1_tupl, b1_tupt, b1_lstt, b1_lstl, ix_t0, ix_t1, isi_tup, isi_int, isi_nb, ev_b1v, ev_b1x, ev_b1c, ev_b1f, ev_b1b, ev_b1n, ev_b1t, ev_b1l, ev_b1s, if_true, if_false, Bool.false_eq_true, Bool.not_true, Bool.not_false, Bool.true_eq_false, ix_wb0]) (fun x x0 x1 => by simp only [exs_cons, exs_nil, ex_set, ex_sef, ex_unp, ex_par, ex_app, ex_ext, ex_six, ex_exp, ex_ret, ex_retv, ex_iff, ex_rse, ex_frz, ev_var, ev_cst, ev_glb, ev_bin, ev_neg, ev_cmp, ev_chn, ev_bo, ev_nt, ev_ite, ev_tup, ev_lst, ev_ix, ev_slc, ev_call, ev_b2, ev_isi, evs_nil, evs_cons, evr_nil, evr_cons, evB_one, evB_cons, pk, peek, nth, put, bindL_nil, bindL_cons, bindR_nil, bindR_cons, frzL, dat_v, dat_l, Res.dat_v, Res.dat_l, okb, exb, List.map_cons, List.map_nil, toI_int, toB_bool, bin_add, bin_sub, cmp_lt, cmp_le, cmp_gt, cmp_ge, cmp_eqi, cmp_nei, cmp_in, cmp_nin, b1_int, b1_lenl, b1_lent, b1_tupl, b1_tupt, b1_lstt, b1_lstl, ix_t0, ix_t1, isi_tup, isi_int, isi_nb, ev_b1v, ev_b1x, ev_b1c, ev_b1f, ev_b1b, ev_b1n, ev_b1t, ev_b1l, ev_b1s, if_true, if_false, Bool.false_eq_true, Bool.not_true, Bool.not_false, Bool.true_eq_false, ix_tl ⟨x0, x1⟩, cmp_tdi]) (fun x x0 x1 _ => by simp only [exs_cons, exs_nil, ex_set, ex_sef, ex_unp, ex_par, ex_app, ex_ext, ex_six, ex_exp, ex_ret, ex_retv, ex_iff, ex_rse, ex_frz, ev_var, ev_cst, ev_glb, ev_bin, ev_neg, ev_cmp, ev_chn, ev_bo, ev_nt, ev_ite, ev_tup, ev_lst, ev_ix, ev_slc, ev_call, ev_b2, ev_isi, evs_nil, evs_cons, evr_nil, evr_cons, evB_one, evB_cons, pk, peek, nth, put, bindL_nil, bindL_cons, bindR_nil, bindR_cons, frzL, dat_v, dat_l, Res.dat_v, Res.dat_l, okb, exb, List.map_cons, List.map_nil, toI_int, toB_bool, bin_add, bin_sub, cmp_lt, cmp_le, cmp_gt, cmp_ge, cmp_eqi, cmp_nei, cmp_in, cmp_nin, b1_int, b1_lenl, b1_lent, b1_tupl, b1_tupt, b1_lstt, b1_lstl, ix_t0, ix_t1, isi_tup, isi_int, isi_nb, ev_b1v, ev_b1x, ev_b1c, ev_b1f, ev_b1b, ev_b1n, ev_b1t, ev_b1l, ev_b1s, if_true, if_false, Bool.false_eq_true, Bool.not_true, Bool.not_false, Bool.true_eq_false])]
    rfl
theorem turns_left_ok (t : Times T G) (h74 : nthF T 74 = some u_fronts) (h75 : nthF T 75 = some u_turns_left) (w : WF n es) (dj : ∀ p, In n p → B p = true → S p = false) (m : Nat) : cal T G (m + 9) 75 [.v (wb n es), .v (sd n B S)] = .ok (.v (.int (mx n es S B : Nat))) := by
  rw [cal_eq h75 rfl]
  show (exs (cal T G (m + 8)) G 1000 u_turns_left.body [some (.v (wb n es)), some (.v (sd n B S))]).bind _ = _
  unfold u_turns_left
  dsimp only
  have e : (rowsL n es S B).length = mx n es S B := by simp [rowsL]
  simp only [exs_cons, exs_nil, ex_set, ex_sef, ex_unp, ex_par, ex_app, ex_ext, ex_six, ex_exp, ex_ret, ex_retv, ex_iff, ex_rse, ex_frz, ev_var, ev_cst, ev_glb, ev_bin, ev_neg, ev_cmp, ev_chn, ev_bo, ev_nt, ev_ite, ev_tup, ev_lst, ev_ix, ev_slc, ev_call, ev_b2, ev_isi, evs_nil, evs_cons, evr_nil, evr_cons, evB_one, evB_cons, pk, peek, nth, put, bindL_nil, bindL_cons, bindR_nil, bindR_cons, frzL, dat_v, dat_l, Res.dat_v, Res.dat_l, okb, exb, List.map_cons, List.map_nil, toI_int, toB_bool, bin_add, bin_sub, cmp_lt, cmp_le, cmp_gt, cmp_ge, cmp_eqi, cmp_nei, cmp_in, cmp_nin, b1_int, b1_lenl, b1_lent, b1_tupl, b1_tupt, b1_lstt, b1_lstl, ix_t0, ix_t1, isi_tup, isi_int, isi_nb, ev_b1v, ev_b1x, ev_b1c, ev_b1f, ev_b1b, ev_b1n, ev_b1t, ev_b1l, ev_b1s, if_true, if_false, Bool.false_eq_true, Bool.not_true, Bool.not_false, Bool.true_eq_false, fronts_ok t h74 w dj m, e]
theorem sources_ok (t : Times T G) (h23 : nthF T 23 = some u_look_place) (h77 : nthF T 77 = some u_sources) (w : WF n es) (dj : ∀ p, In n p → B p = true → S p = false) {p : Int} (hp : In n p) (m : Nat) :
    cal T G (m + 7) 77 [.v (wb n es), .v (sd n B S), .v (.int p)] = .ok (.l (ofI (srcs n es S B p))) := by
  rw [cal_eq h77 rfl]
  show (exs (cal T G (m + 6)) G 1000 u_sources.body [some (.v (wb n es)), some (.v (sd n B S)), some (.v (.int p)), none, none]).bind _ = _
  have h72 : cal T G (m + 6) 72 [.v (wb n es), .v (sd n B S)] = .ok (.l (tl n es S B)) := times_of_ok t w (m + 2)
  have hlp := look_place_ok (es := es) t.toLooks h23 hp (m + 4)
  have hone : ∀ b ∈ st n B, cal T G (m + 6) 72 [.v (wb n es), .v (.tuple [.tuple [.int b], .tuple (ofI (st n S))])] = .ok (.l (tl n es S fun q => decide (q = b))) := fun b hb => by
    have h := times_of_ok (B := fun q => decide (q = b)) (S := S) t w (m + 2)
    unfold sd at h
    rw [st_one (mem_st.mp hb).1] at h
    exact h
  unfold u_sources srcs
  dsimp only
  simp only [exs_cons, exs_nil, ex_set, ex_sef, ex_unp, ex_par, ex_app, ex_ext, ex_six, ex_exp, ex_ret, ex_retv, ex_iff, ex_rse, ex_frz, ev_var, ev_cst, ev_glb, ev_bin, ev_neg, ev_cmp, ev_chn, ev_bo, ev_nt, ev_ite, ev_tup, ev_lst, ev_ix, ev_slc, ev_call, ev_b2, ev_isi, evs_nil, evs_cons, evr_nil, evr_cons, evB_one, evB_cons, pk, peek, nth, put, bindL_nil, bindL_cons, bindR_nil, bindR_cons, frzL, dat_v, dat_l, Res.dat_v, Res.dat_l, okb, exb, List.map_cons, List.map_nil, toI_int, toB_bool, bin_add, bin_sub, cmp_lt, cmp_le, cmp_gt, cmp_ge, cmp_eqi, cmp_nei, cmp_in, cmp_nin, b1_int, b1_lenl, b1_lent, b1_tupl, b1_tupt, b1_lstt, b1_lstl, ix_t0, ix_t1, isi_tup, isi_int, isi_nb, ev_b1v, ev_b1x, ev_b1c, ev_b1f, ev_b1b, ev_b1n, ev_b1t, ev_b1l, ev_b1s, if_true, if_false, Bool.false_eq_true, Bool.not_true, Bool.not_false, Bool.true_eq_false, look_stand_ok t.toStands w dj m, hlp, h72, ix_tl hp, cmp_is, none_td]
  cases hN : (ft n es S B p).isNone with
  | true => simp only [exs_cons, exs_nil, ex_set, ex_sef, ex_unp, ex_par, ex_app, ex_ext, ex_six, ex_exp, ex_ret, ex_retv, ex_iff, ex_rse, ex_frz, ev_var, ev_cst, ev_glb, ev_bin, ev_neg, ev_cmp, ev_chn, ev_bo, ev_nt, ev_ite, ev_tup, ev_lst, ev_ix, ev_slc, ev_call, ev_b2, ev_isi, evs_nil, evs_cons, evr_nil, evr_cons, evB_one, evB_cons, pk, peek, nth, put, bindL_nil, bindL_cons, bindR_nil, bindR_cons, frzL, dat_v, dat_l, Res.dat_v, Res.dat_l, okb, exb, List.map_cons, List.map_nil, toI_int, toB_bool, bin_add, bin_sub, cmp_lt, cmp_le, cmp_gt, cmp_ge, cmp_eqi, cmp_nei, cmp_in, cmp_nin, b1_int, b1_lenl, b1_lent, b1_tupl, b1_tupt, b1_lstt, b1_lstl, ix_t0, ix_t1, isi_tup, isi_int, isi_nb, ev_b1v, ev_b1x, ev_b1c, ev_b1f, ev_b1b, ev_b1n, ev_b1t, ev_b1l, ev_b1s, if_true, if_false, Bool.false_eq_true, Bool.not_true, Bool.not_false, Bool.true_eq_false]; rfl
  | false =>
    simp only [exs_cons, exs_nil, ex_set, ex_sef, ex_unp, ex_par, ex_app, ex_ext, ex_six, ex_exp, ex_ret, ex_retv, ex_iff, ex_rse, ex_frz, ev_var, ev_cst, ev_glb, ev_bin, ev_neg, ev_cmp, ev_chn, ev_bo, ev_nt, ev_ite, ev_tup, ev_lst, ev_ix, ev_slc, ev_call, ev_b2, ev_isi, evs_nil, evs_cons, evr_nil, evr_cons, evB_one, evB_cons, pk, peek, nth, put, bindL_nil, bindL_cons, bindR_nil, bindR_cons, frzL, dat_v, dat_l, Res.dat_v, Res.dat_l, okb, exb, List.map_cons, List.map_nil, toI_int, toB_bool, bin_add, bin_sub, cmp_lt, cmp_le, cmp_gt, cmp_ge, cmp_eqi, cmp_nei, cmp_in, cmp_nin, b1_int, b1_lenl, b1_lent, b1_tupl, b1_tupt, b1_lstt, b1_lstl, ix_t0, ix_t1, isi_tup, isi_int, isi_nb, ev_b1v, ev_b1x, ev_b1c, ev_b1f, ev_b1b, ev_b1n, ev_b1t, ev_b1l, ev_b1s, if_true, if_false, Bool.false_eq_true, Bool.not_true, Bool.not_false, Bool.true_eq_false]
    rw [comp_l (l := st n B) (c := fun b => decide (ft n es S (fun q => decide (q = b)) p = ft n es S B p)) (e := fun b => .int b) (by rw [srcV_ix]; simp only [exs_cons, exs_nil, ex_set, ex_sef, ex_unp, ex_par, ex_app, ex_ext, ex_six, ex_exp, ex_ret, ex_retv, ex_iff, ex_rse, ex_frz, ev_var, ev_cst, ev_glb, ev_bin, ev_neg, ev_cmp, ev_chn, ev_bo, ev_nt, ev_ite, ev_tup, ev_lst, ev_ix, ev_slc, ev_call, ev_b2, ev_isi, evs_nil, evs_cons, evr_nil, evr_cons, evB_one, evB_cons, pk, peek, nth, put, bindL_nil, bindL_cons, bindR_nil, bindR_cons, frzL, dat_v, dat_l, Res.dat_v, Res.dat_l, okb, exb, List.map_cons, List.map_nil, toI_int, toB_bool, bin_add, bin_sub, cmp_lt, cmp_le, cmp_gt, cmp_ge, cmp_eqi, cmp_nei, cmp_in, cmp_nin, b1_int, b1_lenl, b1_lent, b1_tupl, b1_tupt, b1_lstt, b1_lstl, ix_t0, ix_t1, isi_tup, isi_int, isi_nb, ev_b1v, ev_b1x, ev_b1c, ev_b1f, ev_b1b, ev_b1n, ev_b1t, ev_b1l, ev_b1s, if_true, if_false, Bool.false_eq_true, Bool.not_true, Bool.not_false, Bool.true_eq_false, ix_sd0]; rfl) (fun b hb => by simp only [exs_cons, exs_nil, ex_set, ex_sef, ex_unp, ex_par, ex_app, ex_ext, ex_six, ex_exp, ex_ret, ex_retv, ex_iff, ex_rse, ex_frz, ev_var, ev_cst, ev_glb, ev_bin, ev_neg, ev_cmp, ev_chn, ev_bo, ev_nt, ev_ite, ev_tup, ev_lst, ev_ix, ev_slc, ev_call, ev_b2, ev_isi, evs_nil, evs_cons, evr_nil, evr_cons, evB_one, evB_cons, pk, peek, nth, put, bindL_nil, bindL_cons, bindR_nil, bindR_cons, frzL, dat_v, dat_l, Res.dat_v, Res.dat_l, okb, exb, List.map_cons, List.map_nil, toI_int, toB_bool, bin_add, bin_sub, cmp_lt, cmp_le, cmp_gt, cmp_ge, cmp_eqi, cmp_nei, cmp_in, cmp_nin, b1_int, b1_lenl, b1_lent, b1_tupl, b1_tupt, b1_lstt, b1_lstl, ix_t0, ix_t1, isi_tup, isi_int, isi_nb, ev_b1v, ev_b1x, ev_b1c, ev_b1f, ev_b1b, ev_b1n, ev_b1t, ev_b1l, ev_b1s, if_true, if_false, Bool.false_eq_true, Bool.not_true, Bool.not_false, Bool.true_eq_false, ix_sd1, hone b hb, ix_tl hp, cmp_td]) (fun b hb _ => by simp only [exs_cons, exs_nil, ex_set, ex_sef, ex_unp, ex_par, ex_app, ex_ext, ex_six, ex_exp, ex_ret, ex_retv, ex_iff, ex_rse, ex_frz, ev_var, ev_cst, ev_glb, ev_bin, ev_neg, ev_cmp, ev_chn, ev_bo, ev_nt, ev_ite, ev_tup, ev_lst, ev_ix, ev_slc, ev_call, ev_b2, ev_isi, evs_nil, evs_cons, evr_nil, evr_cons, evB_one, evB_cons, pk, peek, nth, put, bindL_nil, bindL_cons, bindR_nil, bindR_cons, frzL, dat_v, dat_l, Res.dat_v, Res.dat_l, okb, exb, List.map_cons, List.map_nil, toI_int, toB_bool, bin_add, bin_sub, cmp_lt, cmp_le, cmp_gt, cmp_ge, cmp_eqi, cmp_nei, cmp_in, cmp_nin, b1_int, b1_lenl, b1_lent, b1_tupl, b1_tupt, b1_lstt, b1_lstl, ix_t0, ix_t1, isi_tup, isi_int, isi_nb, ev_b1v, ev_b1x, ev_b1c, ev_b1f, ev_b1b, ev_b1n, ev_b1t, ev_b1l, ev_b1s, if_true, if_false, Bool.false_eq_true, Bool.not_true, Bool.not_false, Bool.true_eq_false])]
    rfl
/-- where nothing burns a place there is no source -/
theorem srcs_nil {p : Int} (hn : n ≤ 7) (hp : In n p) : srcs n es S B p = [] ↔ ft n es S B p = none := by
  unfold srcs
  constructor
  · intro h
    cases q : ft n es S B p with
    | none => rfl
    | some k =>
      rw [q] at h
      obtain ⟨h1, h2, h3⟩ := ft_some.mp q
      obtain ⟨b, hb1, hb2, hb3⟩ := (bt_one k p hp).mp h2
      have hf : ft n es S (fun q => decide (q = b)) p = some k := ft_some.mpr ⟨h1, hb3, fun j hj => by
        cases z : bt n es S (fun q => decide (q = b)) j p with
        | false => rfl
        | true =>
          have := (bt_one j p hp).mpr ⟨b, hb1, hb2, z⟩
          rw [h3 j hj] at this
          cases this⟩
      have : b ∈ ((st n B).filter fun b => decide (ft n es S (fun q => decide (q = b)) p = some k)) := List.mem_filter.mpr ⟨mem_st.mpr ⟨hb1, hb2⟩, decide_eq_true hf⟩
      simp only [Option.isNone_some, Bool.false_eq_true, if_false] at h
      rw [h] at this
      simp at this
  · intro h
    rw [h]
    rfl
end
end HF

set_option Elab.async false
set_option linter.all false
set_option maxRecDepth 100000
set_option maxHeartbeats 4000000
/-! ### GG: law k15 -/
namespace HF
open PySem
theorem filt_range {M : Nat} (h : M ≤ 7) : (List.range 7).filter (fun j => decide (j < M)) = List.range M := by
  have : M = 0 ∨ M = 1 ∨ M = 2 ∨ M = 3 ∨ M = 4 ∨ M = 5 ∨ M = 6 ∨ M = 7 := by omega
  rcases this with rfl | rfl | rfl | rfl | rfl | rfl | rfl | rfl <;> decide
theorem cmp_neb (a b : Bool) : cmpD .ne (.bool a) (.bool b) = .ok (!(a == b)) := by cases a <;> cases b <;> rfl
theorem ev_b1bo {cl : Nat → List Res → O Res} {G : List PyData} {r : Env} (b : B1) (a : Bool) (es : Es) : ev cl G (.b1 b (.bo a es)) r = (dat (ev cl G (.bo a es) r)).bind fun x => b1D b x := ev_b1 b rfl
theorem mul_l0 (b : Int) : binD .mul (.list [.int b]) (.int 0) = .ok (.l []) := rfl
theorem mul_l1 (b : Int) : binD .mul (.list [.int b]) (.int 1) = .ok (.l [.int b]) := rfl
theorem step_of {tgt : List Nat} {fb : Env → O Flow} {Q : Env → Prop} {d : PyData} {r : Env} (h : ∃ r1, bindT tgt d r = .ok r1 ∧ Yes (fb r1) fun fl => ∃ r2, fl = .nx r2 ∧ Q r2) : ∃ r1 r2, bindT tgt d r = .ok r1 ∧ fb r1 = .ok (.nx r2) ∧ Q r2 := by
  obtain ⟨r1, e1, fl, e2, r2, rfl, q⟩ := h
  exact ⟨r1, r2, e1, e2, q⟩
theorem its_ix {cl : Nat → List Res → O Res} {G : List PyData} {a b : E} {r : Env} : its cl G (.ix a b) r = (dat (ev cl G (.ix a b) r)).bind items := rfl
def law15 : Fn := { pars := 1, slots := 12, body := (.cons (.sef 1 (.call 68 (.cons (.var 0) (.cons (.cst (.int 10)) .nil))))
   (.cons (.sef 2 (.call 11 (.cons (.var 0) (.cons (.cst (.int 200)) (.cons (.var 1) .nil)))))
   (.cons (.sef 3 (.call 78 (.cons (.var 1) (.cons (.var 2) .nil))))
   (.cons (.sef 4 (.comp (.var 7) [7] (.rng1 (.ix (.var 1) (.cst (.int 0)))) (.cmp .is (.ix (.var 3) (.var 7)) (.cst .none))))
   (.cons (.iff (.bo false (.cons (.cmp .ne (.call 73 (.cons (.var 1) (.cons (.var 2) .nil))) (.var 3)) (.cons (.cmp .ne (.call 76 (.cons (.var 1) (.cons (.var 2) .nil))) (.var 4)) .nil))) (.cons (.ret (.cst (.bool false)))
   .nil) .nil)
   (.cons (.set 5 (.lst .nil))
   (.cons (.fr [6] (.rng2 (.cst (.int 1)) (.cst (.int 8))) (.cons (.app 5 (.comp (.var 7) [7] (.rng1 (.ix (.var 1) (.cst (.int 0)))) (.cmp .eq (.ix (.var 3) (.var 7)) (.var 6))))
   .nil))
   (.cons (.set 5 (.comp (.var 10) [10] (.var 5) (.cmp .ne (.var 10) (.lst .nil))))
   (.cons (.iff (.bo false (.cons (.cmp .ne (.call 74 (.cons (.var 1) (.cons (.var 2) .nil))) (.var 5)) (.cons (.cmp .ne (.call 75 (.cons (.var 1) (.cons (.var 2) .nil))) (.b1 .len (.var 5))) .nil))) (.cons (.ret (.cst (.bool false)))
   .nil) .nil)
   (.cons (.fr [7] (.rng1 (.ix (.var 1) (.cst (.int 0)))) (.cons (.set 8 (.lst .nil))
   (.cons (.fr [9] (.ix (.var 2) (.cst (.int 0))) (.cons (.sef 11 (.call 78 (.cons (.var 1) (.cons (.tup (.cons (.tup (.cons (.var 9) .nil)) (.cons (.ix (.var 2) (.cst (.int 1))) .nil))) .nil))))
   (.cons (.ext 8 (.bin .mul (.lst (.cons (.var 9) .nil)) (.b1 .int (.bo true (.cons (.cmp .isn (.ix (.var 11) (.var 7)) (.cst .none)) (.cons (.cmp .eq (.ix (.var 11) (.var 7)) (.ix (.var 3) (.var 7))) .nil))))))
   .nil)))
   (.cons (.iff (.cmp .ne (.call 77 (.cons (.var 1) (.cons (.var 2) (.cons (.var 7) .nil)))) (.var 8)) (.cons (.ret (.cst (.bool false)))
   .nil) .nil)
   (.cons (.iff (.cmp .ne (.cmp .eq (.var 8) (.lst .nil)) (.cmp .is (.ix (.var 3) (.var 7)) (.cst .none))) (.cons (.ret (.cst (.bool false)))
   .nil) .nil)
   .nil)))))
   (.cons (.ret (.cmp .eq (.ix (.call 14 (.cons (.var 1) (.cons (.var 2) .nil))) (.cst (.int 0))) (.b1 .tuple (.comp (.var 7) [7] (.rng1 (.ix (.var 1) (.cst (.int 0)))) (.cmp .isn (.ix (.var 3) (.var 7)) (.cst .none))))))
   .nil))))))))))) }
theorem main15 {T : List Fn} {G : List PyData} (t : Times T G) (tp : Picks T) (tl' : LawSp T) (h9 : nthF T 9 = some u__law_web) (h68 : nthF T 68 = some u__law_loose) (h11 : nthF T 11 = some u__law_stand) (h14 : nthF T 14 = some u__law_end) (h23 : nthF T 23 = some u_look_place) (h74 : nthF T 74 = some u_fronts)
    (h75 : nthF T 75 = some u_turns_left) (h76 : nthF T 76 = some u_safe_places) (h77 : nthF T 77 = some u_sources) (h78 : nthF T 78 = some u__law_times) (hl : nthF T 127 = some law15) (ns : List Int) : cal T G 20 127 [.v (scr ns)] = .ok (.v (.bool true)) := by
  rw [cal_eq (n := 19) hl rfl]
  show (exs (cal T G 19) G 1000 law15.body [some (.v (scr ns)), none, none, none, none, none, none, none, none, none, none, none]).bind _ = _
  obtain ⟨n, es, w, hw⟩ := law_loose_ok (G := G) tp h9 h68 15 ns (k := 10) (by omega)
  obtain ⟨B, S, sf, hs⟩ := law_stand_ok (G := G) tp h11 w 16 ns (k := 200) (by omega)
  have hw' : cal T G 19 68 [.v (scr ns), .v (.int 10)] = .ok (.v (wb n es)) := hw
  have hs' : cal T G 19 11 [.v (scr ns), .v (.int 200), .v (wb n es)] = .ok (.v (sd n B S)) := hs
  have hlo := w.lo
  have hhi := w.hi
  have c78 : cal T G 19 78 [.v (wb n es), .v (sd n B S)] = .ok (.l (tl n es S B)) := law_times_ok tl' h78 w 15
  have c73 : cal T G 19 73 [.v (wb n es), .v (sd n B S)] = .ok (.l (tl n es S B)) := burn_times_ok t w sf.dj 12
  have c76 : cal T G 19 76 [.v (wb n es), .v (sd n B S)] = .ok (.l (ofI (st n fun p => (ft n es S B p).isNone))) := safe_places_ok t h76 w sf.dj 11
  have c74 : cal T G 19 74 [.v (wb n es), .v (sd n B S)] = .ok (.l (rowsL n es S B)) := fronts_ok t h74 w sf.dj 11
  have c75 : cal T G 19 75 [.v (wb n es), .v (sd n B S)] = .ok (.v (.int (mx n es S B : Nat))) := turns_left_ok t h74 h75 w sf.dj 10
  have c14 : cal T G 19 14 [.v (wb n es), .v (sd n B S)] = .ok (.v (sd n (bt n es S B 7) S)) := law_end_ok tl' h14 w 15
  have e1 := cmp_ne_same (pl_tl (n := n) (es := es) (S := S) (B := B)) (by omega : 1 ≤ 64)
  have e2 : cmpD .ne (.list (ofI (st n fun p => (ft n es S B p).isNone))) (.list (ofI (st n fun p => (ft n es S B p).isNone))) = .ok false := cmp_ne_same (k := 1) (pl_ofI _ 0) (by omega)
  unfold law15
  dsimp only
  simp only [exs_cons, exs_nil, ex_set, ex_sef, ex_unp, ex_par, ex_app, ex_ext, ex_six, ex_exp, ex_ret, ex_retv, ex_iff, ex_rse, ex_frz, ev_var, ev_cst, ev_glb, ev_bin, ev_neg, ev_cmp, ev_chn, ev_bo, ev_nt, ev_ite, ev_tup, ev_lst, ev_ix, ev_slc, ev_call, ev_b2, ev_isi, evs_nil, evs_cons, evr_nil, evr_cons, evB_one, evB_cons, pk, peek, nth, put, bindL_nil, bindL_cons, bindR_nil, bindR_cons, frzL, dat_v, dat_l, Res.dat_v, Res.dat_l, okb, exb, List.map_cons, List.map_nil, toI_int, toB_bool, bin_add, bin_sub, cmp_lt, cmp_le, cmp_gt, cmp_ge, cmp_eqi, cmp_nei, cmp_in, cmp_nin, b1_int, b1_lenl, b1_lent, b1_tupl, b1_tupt, b1_lstt, b1_lstl, ix_t0, ix_t1, isi_tup, isi_int, isi_nb, ev_b1v, ev_b1x, ev_b1c, ev_b1f, ev_b1b, ev_b1n, ev_b1t, ev_b1l, ev_b1s, if_true, if_false, Bool.false_eq_true, Bool.not_true, Bool.not_false, Bool.true_eq_false, hw', hs', c78, O.bind_assoc]
  rw [comp_rg (n := n) (c := fun p => (ft n es S B p).isNone) (e := fun p => .int p) (by omega) (by simp only [exs_cons, exs_nil, ex_set, ex_sef, ex_unp, ex_par, ex_app, ex_ext, ex_six, ex_exp, ex_ret, ex_retv, ex_iff, ex_rse, ex_frz, ev_var, ev_cst, ev_glb, ev_bin, ev_neg, ev_cmp, ev_chn, ev_bo, ev_nt, ev_ite, ev_tup, ev_lst, ev_ix, ev_slc, ev_call, ev_b2, ev_isi, evs_nil, evs_cons, evr_nil, evr_cons, evB_one, evB_cons, pk, peek, nth, put, bindL_nil, bindL_cons, bindR_nil, bindR_cons, frzL, dat_v, dat_l, Res.dat_v, Res.dat_l, okb, exb, List.map_cons, List.map_nil, toI_int, toB_bool, bin_add, bin_sub, cmp_lt, cmp_le, cmp_gt, cmp_ge, cmp_eqi, cmp_nei, cmp_in, cmp_nin, b1_int, b1_lenl, b1_lent, b1_tupl, b1_tupt, b1_lstt, b1_lstl, ix_t0, ix_t1, isi_tup, isi_int, isi_nb, ev_b1v, ev_b1x, ev_b1c, ev_b1f, ev_b1b, ev_b1n, ev_b1t, ev_b1l, ev_b1s, if_true, if_false, Bool.false_eq_true, Bool.not_true, Bool.not_false, Bool.true_eq_false, ix_wb0]) (fun x x0 x1 => by simp only [exs_cons, exs_nil, ex_set, ex_sef, ex_unp, ex_par, ex_app, ex_ext, ex_six, ex_exp, ex_ret, ex_retv, ex_iff, ex_rse, ex_frz, ev_var, ev_cst, ev_glb, ev_bin, ev_neg, ev_cmp, ev_chn, ev_bo, ev_nt, ev_ite, ev_tup, ev_lst, ev_ix, ev_slc, ev_call, ev_b2, ev_isi, evs_nil, evs_cons, evr_nil, evr_cons, evB_one, evB_cons, pk, peek, nth, put, bindL_nil, bindL_cons, bindR_nil, bindR_cons, frzL, dat_v, dat_l, Res.dat_v, Res.dat_l, okb, exb, List.map_cons, List.map_nil, toI_int, toB_bool, bin_add, bin_sub, cmp_lt, cmp_le, cmp_gt, cmp_ge, cmp_eqi, cmp_nei, cmp_in, cmp_nin, b1_int, b1_lenl, b1_lent, b1_tupl, b1_tupt, b1_lstt, b1_lstl, ix_t0, ix_t1, isi_tup, isi_int, isi_nb, ev_b1v, ev_b1x, ev_b1c, ev_b1f, ev_b1b, ev_b1n, ev_b1t, ev_b1l, ev_b1s, if_true, if_false, Bool.false_eq_true, Bool.not_true, Bool.not_false, Bool.true_eq_false, ix_tl ⟨x0, x1⟩, cmp_is, none_td]) (fun x x0 x1 _ => by simp only [exs_cons, exs_nil, ex_set, ex_sef, ex_unp, ex_par, ex_app, ex_ext, ex_six, ex_exp, ex_ret, ex_retv, ex_iff, ex_rse, ex_frz, ev_var, ev_cst, ev_glb, ev_bin, ev_neg, ev_cmp, ev_chn, ev_bo, ev_nt, ev_ite, ev_tup, ev_lst, ev_ix, ev_slc, ev_call, ev_b2, ev_isi, evs_nil, evs_cons, evr_nil, evr_cons, evB_one, evB_cons, pk, peek, nth, put, bindL_nil, bindL_cons, bindR_nil, bindR_cons, frzL, dat_v, dat_l, Res.dat_v, Res.dat_l, okb, exb, List.map_cons, List.map_nil, toI_int, toB_bool, bin_add, bin_sub, cmp_lt, cmp_le, cmp_gt, cmp_ge, cmp_eqi, cmp_nei, cmp_in, cmp_nin, b1_int, b1_lenl, b1_lent, b1_tupl, b1_tupt, b1_lstt, b1_lstl, ix_t0, ix_t1, isi_tup, isi_int, isi_nb, ev_b1v, ev_b1x, ev_b1c, ev_b1f, ev_b1b, ev_b1n, ev_b1t, ev_b1l, ev_b1s, if_true, if_false, Bool.false_eq_true, Bool.not_true, Bool.not_false, Bool.true_eq_false])]
  have eF : (st n fun p => (ft n es S B p).isNone).map (fun k => PyData.int k) = ofI (st n fun p => (ft n es S B p).isNone) := rfl
  rw [eF]
  simp only [exs_cons, exs_nil, ex_set, ex_sef, ex_unp, ex_par, ex_app, ex_ext, ex_six, ex_exp, ex_ret, ex_retv, ex_iff, ex_rse, ex_frz, ev_var, ev_cst, ev_glb, ev_bin, ev_neg, ev_cmp, ev_chn, ev_bo, ev_nt, ev_ite, ev_tup, ev_lst, ev_ix, ev_slc, ev_call, ev_b2, ev_isi, evs_nil, evs_cons, evr_nil, evr_cons, evB_one, evB_cons, pk, peek, nth, put, bindL_nil, bindL_cons, bindR_nil, bindR_cons, frzL, dat_v, dat_l, Res.dat_v, Res.dat_l, okb, exb, List.map_cons, List.map_nil, toI_int, toB_bool, bin_add, bin_sub, cmp_lt, cmp_le, cmp_gt, cmp_ge, cmp_eqi, cmp_nei, cmp_in, cmp_nin, b1_int, b1_lenl, b1_lent, b1_tupl, b1_tupt, b1_lstt, b1_lstl, ix_t0, ix_t1, isi_tup, isi_int, isi_nb, ev_b1v, ev_b1x, ev_b1c, ev_b1f, ev_b1b, ev_b1n, ev_b1t, ev_b1l, ev_b1s, if_true, if_false, Bool.false_eq_true, Bool.not_true, Bool.not_false, Bool.true_eq_false, c73, e1, c76, e2, O.bind_assoc]
  refine fr_bind (enc := fun j : Nat => PyData.int (1 + Int.ofNat j)) (xs := List.range 7) (fun xs r => ∃ (d : List Nat) (j6 : Option Res), d ++ xs = List.range 7 ∧ r = [some (.v (scr ns)), some (.v (wb n es)), some (.v (sd n B S)), some (.v (.list (tl n es S B))), some (.v (.list (ofI (st n fun p => (ft n es S B p).isNone)))), some (.l (d.map fun j => .list (ofI (fq n es S B (j + 1))))), j6, none, none, none, none, none])
    (its_rng2 (i := 1) (k := 8) (by simp only [exs_cons, exs_nil, ex_set, ex_sef, ex_unp, ex_par, ex_app, ex_ext, ex_six, ex_exp, ex_ret, ex_retv, ex_iff, ex_rse, ex_frz, ev_var, ev_cst, ev_glb, ev_bin, ev_neg, ev_cmp, ev_chn, ev_bo, ev_nt, ev_ite, ev_tup, ev_lst, ev_ix, ev_slc, ev_call, ev_b2, ev_isi, evs_nil, evs_cons, evr_nil, evr_cons, evB_one, evB_cons, pk, peek, nth, put, bindL_nil, bindL_cons, bindR_nil, bindR_cons, frzL, dat_v, dat_l, Res.dat_v, Res.dat_l, okb, exb, List.map_cons, List.map_nil, toI_int, toB_bool, bin_add, bin_sub, cmp_lt, cmp_le, cmp_gt, cmp_ge, cmp_eqi, cmp_nei, cmp_in, cmp_nin, b1_int, b1_lenl, b1_lent, b1_tupl, b1_tupt, b1_lstt, b1_lstl, ix_t0, ix_t1, isi_tup, isi_int, isi_nb, ev_b1v, ev_b1x, ev_b1c, ev_b1f, ev_b1b, ev_b1n, ev_b1t, ev_b1l, ev_b1s, if_true, if_false, Bool.false_eq_true, Bool.not_true, Bool.not_false, Bool.true_eq_false]) (by simp only [exs_cons, exs_nil, ex_set, ex_sef, ex_unp, ex_par, ex_app, ex_ext, ex_six, ex_exp, ex_ret, ex_retv, ex_iff, ex_rse, ex_frz, ev_var, ev_cst, ev_glb, ev_bin, ev_neg, ev_cmp, ev_chn, ev_bo, ev_nt, ev_ite, ev_tup, ev_lst, ev_ix, ev_slc, ev_call, ev_b2, ev_isi, evs_nil, evs_cons, evr_nil, evr_cons, evB_one, evB_cons, pk, peek, nth, put, bindL_nil, bindL_cons, bindR_nil, bindR_cons, frzL, dat_v, dat_l, Res.dat_v, Res.dat_l, okb, exb, List.map_cons, List.map_nil, toI_int, toB_bool, bin_add, bin_sub, cmp_lt, cmp_le, cmp_gt, cmp_ge, cmp_eqi, cmp_nei, cmp_in, cmp_nin, b1_int, b1_lenl, b1_lent, b1_tupl, b1_tupt, b1_lstt, b1_lstl, ix_t0, ix_t1, isi_tup, isi_int, isi_nb, ev_b1v, ev_b1x, ev_b1c, ev_b1f, ev_b1b, ev_b1n, ev_b1t, ev_b1l, ev_b1s, if_true, if_false, Bool.false_eq_true, Bool.not_true, Bool.not_false, Bool.true_eq_false]) (by omega) (by omega) (by omega) (by omega)) ⟨[], none, rfl, rfl⟩ ?_ ?_
  · rintro x xs r ⟨d, j6, hd, rfl⟩
    have ex1 : (1 : Int) + Int.ofNat x = ((x + 1 : Nat) : Int) := by
      have : Int.ofNat x = (x : Int) := rfl
      omega
    have hdl : (d.map fun j => PyData.list (ofI (fq n es S B (j + 1)))).length < cap := by
      have := congrArg List.length hd
      simp at this
      rw [List.length_map]
      unfold cap
      omega
    refine ⟨_, _, rfl, ?_, d ++ [x], some (.v (.int (1 + Int.ofNat x))), by simp [hd], rfl⟩
    simp only [exs_cons, exs_nil, ex_set, ex_sef, ex_unp, ex_par, ex_app, ex_ext, ex_six, ex_exp, ex_ret, ex_retv, ex_iff, ex_rse, ex_frz, ev_var, ev_cst, ev_glb, ev_bin, ev_neg, ev_cmp, ev_chn, ev_bo, ev_nt, ev_ite, ev_tup, ev_lst, ev_ix, ev_slc, ev_call, ev_b2, ev_isi, evs_nil, evs_cons, evr_nil, evr_cons, evB_one, evB_cons, pk, peek, nth, put, bindL_nil, bindL_cons, bindR_nil, bindR_cons, frzL, dat_v, dat_l, Res.dat_v, Res.dat_l, okb, exb, List.map_cons, List.map_nil, toI_int, toB_bool, bin_add, bin_sub, cmp_lt, cmp_le, cmp_gt, cmp_ge, cmp_eqi, cmp_nei, cmp_in, cmp_nin, b1_int, b1_lenl, b1_lent, b1_tupl, b1_tupt, b1_lstt, b1_lstl, ix_t0, ix_t1, isi_tup, isi_int, isi_nb, ev_b1v, ev_b1x, ev_b1c, ev_b1f, ev_b1b, ev_b1n, ev_b1t, ev_b1l, ev_b1s, if_true, if_false, Bool.false_eq_true, Bool.not_true, Bool.not_false, Bool.true_eq_false, ex1]
    rw [comp_rg (n := n) (c := fun p => decide (ft n es S B p = some (x + 1))) (e := fun p => .int p) (by omega) (by simp only [exs_cons, exs_nil, ex_set, ex_sef, ex_unp, ex_par, ex_app, ex_ext, ex_six, ex_exp, ex_ret, ex_retv, ex_iff, ex_rse, ex_frz, ev_var, ev_cst, ev_glb, ev_bin, ev_neg, ev_cmp, ev_chn, ev_bo, ev_nt, ev_ite, ev_tup, ev_lst, ev_ix, ev_slc, ev_call, ev_b2, ev_isi, evs_nil, evs_cons, evr_nil, evr_cons, evB_one, evB_cons, pk, peek, nth, put, bindL_nil, bindL_cons, bindR_nil, bindR_cons, frzL, dat_v, dat_l, Res.dat_v, Res.dat_l, okb, exb, List.map_cons, List.map_nil, toI_int, toB_bool, bin_add, bin_sub, cmp_lt, cmp_le, cmp_gt, cmp_ge, cmp_eqi, cmp_nei, cmp_in, cmp_nin, b1_int, b1_lenl, b1_lent, b1_tupl, b1_tupt, b1_lstt, b1_lstl, ix_t0, ix_t1, isi_tup, isi_int, isi_nb, ev_b1v, ev_b1x, ev_b1c, ev_b1f, ev_b1b, ev_b1n, ev_b1t, ev_b1l, ev_b1s, if_true, if_false, Bool.false_eq_true, Bool.not_true, Bool.not_false, Bool.true_eq_false, ix_wb0]) (fun y y0 y1 => by simp only [exs_cons, exs_nil, ex_set, ex_sef, ex_unp, ex_par, ex_app, ex_ext, ex_six, ex_exp, ex_ret, ex_retv, ex_iff, ex_rse, ex_frz, ev_var, ev_cst, ev_glb, ev_bin, ev_neg, ev_cmp, ev_chn, ev_bo, ev_nt, ev_ite, ev_tup, ev_lst, ev_ix, ev_slc, ev_call, ev_b2, ev_isi, evs_nil, evs_cons, evr_nil, evr_cons, evB_one, evB_cons, pk, peek, nth, put, bindL_nil, bindL_cons, bindR_nil, bindR_cons, frzL, dat_v, dat_l, Res.dat_v, Res.dat_l, okb, exb, List.map_cons, List.map_nil, toI_int, toB_bool, bin_add, bin_sub, cmp_lt, cmp_le, cmp_gt, cmp_ge, cmp_eqi, cmp_nei, cmp_in, cmp_nin, b1_int, b1_lenl, b1_lent, b1_tupl, b1_tupt, b1_lstt, b1_lstl, ix_t0, ix_t1, isi_tup, isi_int, isi_nb, ev_b1v, ev_b1x, ev_b1c, ev_b1f, ev_b1b, ev_b1n, ev_b1t, ev_b1l, ev_b1s, if_true, if_false, Bool.false_eq_true, Bool.not_true, Bool.not_false, Bool.true_eq_false, ix_tl ⟨y0, y1⟩, cmp_tdi]) (fun y y0 y1 _ => by simp only [exs_cons, exs_nil, ex_set, ex_sef, ex_unp, ex_par, ex_app, ex_ext, ex_six, ex_exp, ex_ret, ex_retv, ex_iff, ex_rse, ex_frz, ev_var, ev_cst, ev_glb, ev_bin, ev_neg, ev_cmp, ev_chn, ev_bo, ev_nt, ev_ite, ev_tup, ev_lst, ev_ix, ev_slc, ev_call, ev_b2, ev_isi, evs_nil, evs_cons, evr_nil, evr_cons, evB_one, evB_cons, pk, peek, nth, put, bindL_nil, bindL_cons, bindR_nil, bindR_cons, frzL, dat_v, dat_l, Res.dat_v, Res.dat_l, okb, exb, List.map_cons, List.map_nil, toI_int, toB_bool, bin_add, bin_sub, cmp_lt, cmp_le, cmp_gt, cmp_ge, cmp_eqi, cmp_nei, cmp_in, cmp_nin, b1_int, b1_lenl, b1_lent, b1_tupl, b1_tupt, b1_lstt, b1_lstl, ix_t0, ix_t1, isi_tup, isi_int, isi_nb, ev_b1v, ev_b1x, ev_b1c, ev_b1f, ev_b1b, ev_b1n, ev_b1t, ev_b1l, ev_b1s, if_true, if_false, Bool.false_eq_true, Bool.not_true, Bool.not_false, Bool.true_eq_false])]
    have eq : (st n fun p => decide (ft n es S B p = some (x + 1))).map (fun k => PyData.int k) = ofI (fq n es S B (x + 1)) := rfl
    rw [eq]
    simp only [exs_cons, exs_nil, ex_set, ex_sef, ex_unp, ex_par, ex_app, ex_ext, ex_six, ex_exp, ex_ret, ex_retv, ex_iff, ex_rse, ex_frz, ev_var, ev_cst, ev_glb, ev_bin, ev_neg, ev_cmp, ev_chn, ev_bo, ev_nt, ev_ite, ev_tup, ev_lst, ev_ix, ev_slc, ev_call, ev_b2, ev_isi, evs_nil, evs_cons, evr_nil, evr_cons, evB_one, evB_cons, pk, peek, nth, put, bindL_nil, bindL_cons, bindR_nil, bindR_cons, frzL, dat_v, dat_l, Res.dat_v, Res.dat_l, okb, exb, List.map_cons, List.map_nil, toI_int, toB_bool, bin_add, bin_sub, cmp_lt, cmp_le, cmp_gt, cmp_ge, cmp_eqi, cmp_nei, cmp_in, cmp_nin, b1_int, b1_lenl, b1_lent, b1_tupl, b1_tupt, b1_lstt, b1_lstl, ix_t0, ix_t1, isi_tup, isi_int, isi_nb, ev_b1v, ev_b1x, ev_b1c, ev_b1f, ev_b1b, ev_b1n, ev_b1t, ev_b1l, ev_b1s, if_true, if_false, Bool.false_eq_true, Bool.not_true, Bool.not_false, Bool.true_eq_false, hdl, List.map_append]
  · rintro r ⟨d, j6, hd, rfl⟩
    rw [List.append_nil] at hd
    subst hd
    simp only [exs_cons, exs_nil, ex_set, ex_sef, ex_unp, ex_par, ex_app, ex_ext, ex_six, ex_exp, ex_ret, ex_retv, ex_iff, ex_rse, ex_frz, ev_var, ev_cst, ev_glb, ev_bin, ev_neg, ev_cmp, ev_chn, ev_bo, ev_nt, ev_ite, ev_tup, ev_lst, ev_ix, ev_slc, ev_call, ev_b2, ev_isi, evs_nil, evs_cons, evr_nil, evr_cons, evB_one, evB_cons, pk, peek, nth, put, bindL_nil, bindL_cons, bindR_nil, bindR_cons, frzL, dat_v, dat_l, Res.dat_v, Res.dat_l, okb, exb, List.map_cons, List.map_nil, toI_int, toB_bool, bin_add, bin_sub, cmp_lt, cmp_le, cmp_gt, cmp_ge, cmp_eqi, cmp_nei, cmp_in, cmp_nin, b1_int, b1_lenl, b1_lent, b1_tupl, b1_tupt, b1_lstt, b1_lstl, ix_t0, ix_t1, isi_tup, isi_int, isi_nb, ev_b1v, ev_b1x, ev_b1c, ev_b1f, ev_b1b, ev_b1n, ev_b1t, ev_b1l, ev_b1s, if_true, if_false, Bool.false_eq_true, Bool.not_true, Bool.not_false, Bool.true_eq_false]
    rw [ev_comp (xs := List.range 7) (enc := fun j : Nat => .list (ofI (fq n es S B (j + 1)))) (fun j => [some (.v (scr ns)), some (.v (wb n es)), some (.v (sd n B S)), some (.v (.list (tl n es S B))), some (.v (.list (ofI (st n fun p => (ft n es S B p).isNone)))), some (.l ((List.range 7).map fun j => .list (ofI (fq n es S B (j + 1))))), j6, none, none, none, some (.v (.list (ofI (fq n es S B (j + 1))))), none])
      (fun j => decide (j < mx n es S B)) (fun j => .list (ofI (fq n es S B (j + 1)))) (by rfl) (fun j _ => rfl) (fun j _ => ?_) (fun j _ _ => by simp only [exs_cons, exs_nil, ex_set, ex_sef, ex_unp, ex_par, ex_app, ex_ext, ex_six, ex_exp, ex_ret, ex_retv, ex_iff, ex_rse, ex_frz, ev_var, ev_cst, ev_glb, ev_bin, ev_neg, ev_cmp, ev_chn, ev_bo, ev_nt, ev_ite, ev_tup, ev_lst, ev_ix, ev_slc, ev_call, ev_b2, ev_isi, evs_nil, evs_cons, evr_nil, evr_cons, evB_one, evB_cons, pk, peek, nth, put, bindL_nil, bindL_cons, bindR_nil, bindR_cons, frzL, dat_v, dat_l, Res.dat_v, Res.dat_l, okb, exb, List.map_cons, List.map_nil, toI_int, toB_bool, bin_add, bin_sub, cmp_lt, cmp_le, cmp_gt, cmp_ge, cmp_eqi, cmp_nei, cmp_in, cmp_nin, b1_int, b1_lenl, b1_lent, b1_tupl, b1_tupt, b1_lstt, b1_lstl, ix_t0, ix_t1, isi_tup, isi_int, isi_nb, ev_b1v, ev_b1x, ev_b1c, ev_b1f, ev_b1b, ev_b1n, ev_b1t, ev_b1l, ev_b1s, if_true, if_false, Bool.false_eq_true, Bool.not_true, Bool.not_false, Bool.true_eq_false])]
    · rw [filt_range mx_le]
      have eR : ((List.range (mx n es S B)).map fun j => PyData.list (ofI (fq n es S B (j + 1)))) = rowsL n es S B := rfl
      rw [eR]
      have e3 := cmp_ne_same (pl_rows (n := n) (es := es) (S := S) (B := B)) (by omega : 2 ≤ 64)
      have e4 : (rowsL n es S B).length = mx n es S B := by simp [rowsL]
      have e5 : (((mx n es S B : Nat) : Int) == ((mx n es S B : Nat) : Int)) = true := by simp
      simp only [exs_cons, exs_nil, ex_set, ex_sef, ex_unp, ex_par, ex_app, ex_ext, ex_six, ex_exp, ex_ret, ex_retv, ex_iff, ex_rse, ex_frz, ev_var, ev_cst, ev_glb, ev_bin, ev_neg, ev_cmp, ev_chn, ev_bo, ev_nt, ev_ite, ev_tup, ev_lst, ev_ix, ev_slc, ev_call, ev_b2, ev_isi, evs_nil, evs_cons, evr_nil, evr_cons, evB_one, evB_cons, pk, peek, nth, put, bindL_nil, bindL_cons, bindR_nil, bindR_cons, frzL, dat_v, dat_l, Res.dat_v, Res.dat_l, okb, exb, List.map_cons, List.map_nil, toI_int, toB_bool, bin_add, bin_sub, cmp_lt, cmp_le, cmp_gt, cmp_ge, cmp_eqi, cmp_nei, cmp_in, cmp_nin, b1_int, b1_lenl, b1_lent, b1_tupl, b1_tupt, b1_lstt, b1_lstl, ix_t0, ix_t1, isi_tup, isi_int, isi_nb, ev_b1v, ev_b1x, ev_b1c, ev_b1f, ev_b1b, ev_b1n, ev_b1t, ev_b1l, ev_b1s, if_true, if_false, Bool.false_eq_true, Bool.not_true, Bool.not_false, Bool.true_eq_false, c74, e3, c75, e4, e5, O.bind_assoc]
      refine fr_bind (enc := .int) (xs := rg n) (fun xs r => ∃ (j7 j8 j9 j11 : Option Res), (∀ x ∈ xs, In n x) ∧ r = [some (.v (scr ns)), some (.v (wb n es)), some (.v (sd n B S)), some (.v (.list (tl n es S B))), some (.v (.list (ofI (st n fun p => (ft n es S B p).isNone)))), some (.l (rowsL n es S B)), j6, j7, j8, j9, none, j11])
        (its_rng1 (k := n) (by omega) (by simp only [exs_cons, exs_nil, ex_set, ex_sef, ex_unp, ex_par, ex_app, ex_ext, ex_six, ex_exp, ex_ret, ex_retv, ex_iff, ex_rse, ex_frz, ev_var, ev_cst, ev_glb, ev_bin, ev_neg, ev_cmp, ev_chn, ev_bo, ev_nt, ev_ite, ev_tup, ev_lst, ev_ix, ev_slc, ev_call, ev_b2, ev_isi, evs_nil, evs_cons, evr_nil, evr_cons, evB_one, evB_cons, pk, peek, nth, put, bindL_nil, bindL_cons, bindR_nil, bindR_cons, frzL, dat_v, dat_l, Res.dat_v, Res.dat_l, okb, exb, List.map_cons, List.map_nil, toI_int, toB_bool, bin_add, bin_sub, cmp_lt, cmp_le, cmp_gt, cmp_ge, cmp_eqi, cmp_nei, cmp_in, cmp_nin, b1_int, b1_lenl, b1_lent, b1_tupl, b1_tupt, b1_lstt, b1_lstl, ix_t0, ix_t1, isi_tup, isi_int, isi_nb, ev_b1v, ev_b1x, ev_b1c, ev_b1f, ev_b1b, ev_b1n, ev_b1t, ev_b1l, ev_b1s, if_true, if_false, Bool.false_eq_true, Bool.not_true, Bool.not_false, Bool.true_eq_false, ix_wb0])) ⟨_, _, _, _, fun x hx => mem_rg.mp hx, rfl⟩ ?_ ?_
      · rintro x xs r ⟨j7, j8, j9, j11, hin, rfl⟩
        have hx := hin x (by simp)
        have c77 : cal T G 19 77 [.v (wb n es), .v (sd n B S), .v (.int x)] = .ok (.l (ofI (srcs n es S B x))) := sources_ok t h23 h77 w sf.dj hx 12
        refine step_of ⟨_, rfl, ?_⟩
        simp only [exs_cons, exs_nil, ex_set, ex_sef, ex_unp, ex_par, ex_app, ex_ext, ex_six, ex_exp, ex_ret, ex_retv, ex_iff, ex_rse, ex_frz, ev_var, ev_cst, ev_glb, ev_bin, ev_neg, ev_cmp, ev_chn, ev_bo, ev_nt, ev_ite, ev_tup, ev_lst, ev_ix, ev_slc, ev_call, ev_b2, ev_isi, evs_nil, evs_cons, evr_nil, evr_cons, evB_one, evB_cons, pk, peek, nth, put, bindL_nil, bindL_cons, bindR_nil, bindR_cons, frzL, dat_v, dat_l, Res.dat_v, Res.dat_l, okb, exb, List.map_cons, List.map_nil, toI_int, toB_bool, bin_add, bin_sub, cmp_lt, cmp_le, cmp_gt, cmp_ge, cmp_eqi, cmp_nei, cmp_in, cmp_nin, b1_int, b1_lenl, b1_lent, b1_tupl, b1_tupt, b1_lstt, b1_lstl, ix_t0, ix_t1, isi_tup, isi_int, isi_nb, ev_b1v, ev_b1x, ev_b1c, ev_b1f, ev_b1b, ev_b1n, ev_b1t, ev_b1l, ev_b1s, if_true, if_false, Bool.false_eq_true, Bool.not_true, Bool.not_false, Bool.true_eq_false, O.bind_assoc]
        refine fr_yes (enc := .int) (xs := st n B) (fun ys r => ∃ (d : List Int) (j9 j11 : Option Res), d ++ ys = st n B ∧ r = [some (.v (scr ns)), some (.v (wb n es)), some (.v (sd n B S)), some (.v (.list (tl n es S B))), some (.v (.list (ofI (st n fun p => (ft n es S B p).isNone)))), some (.l (rowsL n es S B)), j6, some (.v (.int x)),
          some (.l (ofI (d.filter fun b => !(ft n es S (fun q => decide (q = b)) x).isNone && decide (ft n es S (fun q => decide (q = b)) x = ft n es S B x)))), j9, none, j11]) ?_ ⟨[], _, _, rfl, rfl⟩ ?_ ?_
        · rw [its_ix]
          simp only [exs_cons, exs_nil, ex_set, ex_sef, ex_unp, ex_par, ex_app, ex_ext, ex_six, ex_exp, ex_ret, ex_retv, ex_iff, ex_rse, ex_frz, ev_var, ev_cst, ev_glb, ev_bin, ev_neg, ev_cmp, ev_chn, ev_bo, ev_nt, ev_ite, ev_tup, ev_lst, ev_ix, ev_slc, ev_call, ev_b2, ev_isi, evs_nil, evs_cons, evr_nil, evr_cons, evB_one, evB_cons, pk, peek, nth, put, bindL_nil, bindL_cons, bindR_nil, bindR_cons, frzL, dat_v, dat_l, Res.dat_v, Res.dat_l, okb, exb, List.map_cons, List.map_nil, toI_int, toB_bool, bin_add, bin_sub, cmp_lt, cmp_le, cmp_gt, cmp_ge, cmp_eqi, cmp_nei, cmp_in, cmp_nin, b1_int, b1_lenl, b1_lent, b1_tupl, b1_tupt, b1_lstt, b1_lstl, ix_t0, ix_t1, isi_tup, isi_int, isi_nb, ev_b1v, ev_b1x, ev_b1c, ev_b1f, ev_b1b, ev_b1n, ev_b1t, ev_b1l, ev_b1s, if_true, if_false, Bool.false_eq_true, Bool.not_true, Bool.not_false, Bool.true_eq_false, ix_sd0]
          rfl
        · rintro b ys r ⟨d, j9, j11, hd, rfl⟩
          have hb := mem_st.mp (show b ∈ st n B by rw [← hd]; simp)
          have cb : cal T G 19 78 [.v (wb n es), .v (.tuple [.tuple [.int b], .tuple (ofI (st n S))])] = .ok (.l (tl n es S fun q => decide (q = b))) := by
            have h : cal T G 19 78 [.v (wb n es), .v (sd n (fun q => decide (q = b)) S)] = .ok (.l (tl n es S fun q => decide (q = b))) := law_times_ok tl' h78 w 15
            unfold sd at h
            rw [st_one hb.1] at h
            exact h
          have hlc : ∀ c : Int → Bool, (ofI (d.filter c)).length + [PyData.int b].length ≤ cap ∧ (ofI (d.filter c)).length + ([] : List PyData).length ≤ cap := fun c => by
            have h1 := List.length_filter_le c d
            have h2 := congrArg List.length hd
            rw [List.length_append] at h2
            have h3 := st_len n B
            rw [ofI_len]
            simp only [List.length_cons, List.length_nil]
            unfold cap
            omega
          refine ⟨_, rfl, ?_⟩
          simp only [exs_cons, exs_nil, ex_set, ex_sef, ex_unp, ex_par, ex_app, ex_ext, ex_six, ex_exp, ex_ret, ex_retv, ex_iff, ex_rse, ex_frz, ev_var, ev_cst, ev_glb, ev_bin, ev_neg, ev_cmp, ev_chn, ev_bo, ev_nt, ev_ite, ev_tup, ev_lst, ev_ix, ev_slc, ev_call, ev_b2, ev_isi, evs_nil, evs_cons, evr_nil, evr_cons, evB_one, evB_cons, pk, peek, nth, put, bindL_nil, bindL_cons, bindR_nil, bindR_cons, frzL, dat_v, dat_l, Res.dat_v, Res.dat_l, okb, exb, List.map_cons, List.map_nil, toI_int, toB_bool, bin_add, bin_sub, cmp_lt, cmp_le, cmp_gt, cmp_ge, cmp_eqi, cmp_nei, cmp_in, cmp_nin, b1_int, b1_lenl, b1_lent, b1_tupl, b1_tupt, b1_lstt, b1_lstl, ix_t0, ix_t1, isi_tup, isi_int, isi_nb, ev_b1v, ev_b1x, ev_b1c, ev_b1f, ev_b1b, ev_b1n, ev_b1t, ev_b1l, ev_b1s, if_true, if_false, Bool.false_eq_true, Bool.not_true, Bool.not_false, Bool.true_eq_false, ev_b1bo, ix_sd1, cb, ix_tl hx, cmp_isn, none_td]
          cases hN : (ft n es S (fun q => decide (q = b)) x).isNone with
          | true =>
            simp only [exs_cons, exs_nil, ex_set, ex_sef, ex_unp, ex_par, ex_app, ex_ext, ex_six, ex_exp, ex_ret, ex_retv, ex_iff, ex_rse, ex_frz, ev_var, ev_cst, ev_glb, ev_bin, ev_neg, ev_cmp, ev_chn, ev_bo, ev_nt, ev_ite, ev_tup, ev_lst, ev_ix, ev_slc, ev_call, ev_b2, ev_isi, evs_nil, evs_cons, evr_nil, evr_cons, evB_one, evB_cons, pk, peek, nth, put, bindL_nil, bindL_cons, bindR_nil, bindR_cons, frzL, dat_v, dat_l, Res.dat_v, Res.dat_l, okb, exb, List.map_cons, List.map_nil, toI_int, toB_bool, bin_add, bin_sub, cmp_lt, cmp_le, cmp_gt, cmp_ge, cmp_eqi, cmp_nei, cmp_in, cmp_nin, b1_int, b1_lenl, b1_lent, b1_tupl, b1_tupt, b1_lstt, b1_lstl, ix_t0, ix_t1, isi_tup, isi_int, isi_nb, ev_b1v, ev_b1x, ev_b1c, ev_b1f, ev_b1b, ev_b1n, ev_b1t, ev_b1l, ev_b1s, if_true, if_false, Bool.false_eq_true, Bool.not_true, Bool.not_false, Bool.true_eq_false, b1_intb, mul_l0, (hlc _).2, List.append_nil]
            refine yes_ok ⟨_, rfl, d ++ [b], some (.v (.int b)), some (.v (.list (tl n es S fun q => decide (q = b)))), by simp [hd], ?_⟩
            rw [filt_snoc]
            simp only [hN, Bool.not_true, Bool.false_and, Bool.false_eq_true, if_false, List.append_nil]
          | false =>
            simp only [exs_cons, exs_nil, ex_set, ex_sef, ex_unp, ex_par, ex_app, ex_ext, ex_six, ex_exp, ex_ret, ex_retv, ex_iff, ex_rse, ex_frz, ev_var, ev_cst, ev_glb, ev_bin, ev_neg, ev_cmp, ev_chn, ev_bo, ev_nt, ev_ite, ev_tup, ev_lst, ev_ix, ev_slc, ev_call, ev_b2, ev_isi, evs_nil, evs_cons, evr_nil, evr_cons, evB_one, evB_cons, pk, peek, nth, put, bindL_nil, bindL_cons, bindR_nil, bindR_cons, frzL, dat_v, dat_l, Res.dat_v, Res.dat_l, okb, exb, List.map_cons, List.map_nil, toI_int, toB_bool, bin_add, bin_sub, cmp_lt, cmp_le, cmp_gt, cmp_ge, cmp_eqi, cmp_nei, cmp_in, cmp_nin, b1_int, b1_lenl, b1_lent, b1_tupl, b1_tupt, b1_lstt, b1_lstl, ix_t0, ix_t1, isi_tup, isi_int, isi_nb, ev_b1v, ev_b1x, ev_b1c, ev_b1f, ev_b1b, ev_b1n, ev_b1t, ev_b1l, ev_b1s, if_true, if_false, Bool.false_eq_true, Bool.not_true, Bool.not_false, Bool.true_eq_false, cmp_td]
            cases hE : decide (ft n es S (fun q => decide (q = b)) x = ft n es S B x) with
            | true =>
              simp only [exs_cons, exs_nil, ex_set, ex_sef, ex_unp, ex_par, ex_app, ex_ext, ex_six, ex_exp, ex_ret, ex_retv, ex_iff, ex_rse, ex_frz, ev_var, ev_cst, ev_glb, ev_bin, ev_neg, ev_cmp, ev_chn, ev_bo, ev_nt, ev_ite, ev_tup, ev_lst, ev_ix, ev_slc, ev_call, ev_b2, ev_isi, evs_nil, evs_cons, evr_nil, evr_cons, evB_one, evB_cons, pk, peek, nth, put, bindL_nil, bindL_cons, bindR_nil, bindR_cons, frzL, dat_v, dat_l, Res.dat_v, Res.dat_l, okb, exb, List.map_cons, List.map_nil, toI_int, toB_bool, bin_add, bin_sub, cmp_lt, cmp_le, cmp_gt, cmp_ge, cmp_eqi, cmp_nei, cmp_in, cmp_nin, b1_int, b1_lenl, b1_lent, b1_tupl, b1_tupt, b1_lstt, b1_lstl, ix_t0, ix_t1, isi_tup, isi_int, isi_nb, ev_b1v, ev_b1x, ev_b1c, ev_b1f, ev_b1b, ev_b1n, ev_b1t, ev_b1l, ev_b1s, if_true, if_false, Bool.false_eq_true, Bool.not_true, Bool.not_false, Bool.true_eq_false, b1_intb, mul_l1, (hlc _).1, ofI_snoc]
              refine yes_ok ⟨_, rfl, d ++ [b], some (.v (.int b)), some (.v (.list (tl n es S fun q => decide (q = b)))), by simp [hd], ?_⟩
              rw [filt_snoc]
              simp only [hN, hE, Bool.not_false, Bool.and_self, if_true]
            | false =>
              simp only [exs_cons, exs_nil, ex_set, ex_sef, ex_unp, ex_par, ex_app, ex_ext, ex_six, ex_exp, ex_ret, ex_retv, ex_iff, ex_rse, ex_frz, ev_var, ev_cst, ev_glb, ev_bin, ev_neg, ev_cmp, ev_chn, ev_bo, ev_nt, ev_ite, ev_tup, ev_lst, ev_ix, ev_slc, ev_call, ev_b2, ev_isi, evs_nil, evs_cons, evr_nil, evr_cons, evB_one, evB_cons, pk, peek, nth, put, bindL_nil, bindL_cons, bindR_nil, bindR_cons, frzL, dat_v, dat_l, Res.dat_v, Res.dat_l, okb, exb, List.map_cons, List.map_nil, toI_int, toB_bool, bin_add, bin_sub, cmp_lt, cmp_le, cmp_gt, cmp_ge, cmp_eqi, cmp_nei, cmp_in, cmp_nin, b1_int, b1_lenl, b1_lent, b1_tupl, b1_tupt, b1_lstt, b1_lstl, ix_t0, ix_t1, isi_tup, isi_int, isi_nb, ev_b1v, ev_b1x, ev_b1c, ev_b1f, ev_b1b, ev_b1n, ev_b1t, ev_b1l, ev_b1s, if_true, if_false, Bool.false_eq_true, Bool.not_true, Bool.not_false, Bool.true_eq_false, b1_intb, mul_l0, (hlc _).2, List.append_nil]
              refine yes_ok ⟨_, rfl, d ++ [b], some (.v (.int b)), some (.v (.list (tl n es S fun q => decide (q = b)))), by simp [hd], ?_⟩
              rw [filt_snoc]
              simp only [hN, hE, Bool.and_false, Bool.false_eq_true, if_false, List.append_nil]
        · rintro r ⟨d, j9, j11, hd, rfl⟩
          rw [List.append_nil] at hd
          subst hd
          have eS : ((st n B).filter fun b => !(ft n es S (fun q => decide (q = b)) x).isNone && decide (ft n es S (fun q => decide (q = b)) x = ft n es S B x)) = srcs n es S B x := by
            unfold srcs
            cases q : ft n es S B x with
            | none =>
              rw [if_pos (by rfl), List.filter_eq_nil_iff]
              intro b _ h
              rw [Bool.and_eq_true, decide_eq_true_eq] at h
              rw [h.2] at h
              exact absurd h.1 (by simp)
            | some k =>
              rw [if_neg (by simp)]
              refine List.filter_congr fun b _ => ?_
              cases ft n es S (fun q => decide (q = b)) x with
              | none => rfl
              | some j => simp
          rw [eS]
          have e8 : cmpD .ne (.list (ofI (srcs n es S B x))) (.list (ofI (srcs n es S B x))) = .ok false := cmp_ne_same (k := 1) (pl_ofI _ 0) (by omega)
          have e9 : ((srcs n es S B x).isEmpty == (ft n es S B x).isNone) = true := by
            have h := srcs_nil (es := es) (S := S) (B := B) hhi hx
            cases q : ft n es S B x with
            | none => rw [h.mpr q]; rfl
            | some k =>
              cases q2 : srcs n es S B x with
              | nil => rw [h.mp q2] at q; cases q
              | cons a l => rfl
          simp only [exs_cons, exs_nil, ex_set, ex_sef, ex_unp, ex_par, ex_app, ex_ext, ex_six, ex_exp, ex_ret, ex_retv, ex_iff, ex_rse, ex_frz, ev_var, ev_cst, ev_glb, ev_bin, ev_neg, ev_cmp, ev_chn, ev_bo, ev_nt, ev_ite, ev_tup, ev_lst, ev_ix, ev_slc, ev_call, ev_b2, ev_isi, evs_nil, evs_cons, evr_nil, evr_cons, evB_one, evB_cons, pk, peek, nth, put, bindL_nil, bindL_cons, bindR_nil, bindR_cons, frzL, dat_v, dat_l, Res.dat_v, Res.dat_l, okb, exb, List.map_cons, List.map_nil, toI_int, toB_bool, bin_add, bin_sub, cmp_lt, cmp_le, cmp_gt, cmp_ge, cmp_eqi, cmp_nei, cmp_in, cmp_nin, b1_int, b1_lenl, b1_lent, b1_tupl, b1_tupt, b1_lstt, b1_lstl, ix_t0, ix_t1, isi_tup, isi_int, isi_nb, ev_b1v, ev_b1x, ev_b1c, ev_b1f, ev_b1b, ev_b1n, ev_b1t, ev_b1l, ev_b1s, if_true, if_false, Bool.false_eq_true, Bool.not_true, Bool.not_false, Bool.true_eq_false, c77, e8, cmp_eq_nil, ix_tl hx, cmp_is, none_td, cmp_neb, e9]
          exact yes_ok ⟨_, rfl, _, _, _, _, fun y hy => hin y (List.mem_cons_of_mem _ hy), rfl⟩
      · rintro r ⟨j7, j8, j9, j11, hin, rfl⟩
        simp only [exs_cons, exs_nil, ex_set, ex_sef, ex_unp, ex_par, ex_app, ex_ext, ex_six, ex_exp, ex_ret, ex_retv, ex_iff, ex_rse, ex_frz, ev_var, ev_cst, ev_glb, ev_bin, ev_neg, ev_cmp, ev_chn, ev_bo, ev_nt, ev_ite, ev_tup, ev_lst, ev_ix, ev_slc, ev_call, ev_b2, ev_isi, evs_nil, evs_cons, evr_nil, evr_cons, evB_one, evB_cons, pk, peek, nth, put, bindL_nil, bindL_cons, bindR_nil, bindR_cons, frzL, dat_v, dat_l, Res.dat_v, Res.dat_l, okb, exb, List.map_cons, List.map_nil, toI_int, toB_bool, bin_add, bin_sub, cmp_lt, cmp_le, cmp_gt, cmp_ge, cmp_eqi, cmp_nei, cmp_in, cmp_nin, b1_int, b1_lenl, b1_lent, b1_tupl, b1_tupt, b1_lstt, b1_lstl, ix_t0, ix_t1, isi_tup, isi_int, isi_nb, ev_b1v, ev_b1x, ev_b1c, ev_b1f, ev_b1b, ev_b1n, ev_b1t, ev_b1l, ev_b1s, if_true, if_false, Bool.false_eq_true, Bool.not_true, Bool.not_false, Bool.true_eq_false, c14, ix_sd0]
        rw [comp_rg (n := n) (c := fun p => !(ft n es S B p).isNone) (e := fun p => .int p) (by omega) (by simp only [exs_cons, exs_nil, ex_set, ex_sef, ex_unp, ex_par, ex_app, ex_ext, ex_six, ex_exp, ex_ret, ex_retv, ex_iff, ex_rse, ex_frz, ev_var, ev_cst, ev_glb, ev_bin, ev_neg, ev_cmp, ev_chn, ev_bo, ev_nt, ev_ite, ev_tup, ev_lst, ev_ix, ev_slc, ev_call, ev_b2, ev_isi, evs_nil, evs_cons, evr_nil, evr_cons, evB_one, evB_cons, pk, peek, nth, put, bindL_nil, bindL_cons, bindR_nil, bindR_cons, frzL, dat_v, dat_l, Res.dat_v, Res.dat_l, okb, exb, List.map_cons, List.map_nil, toI_int, toB_bool, bin_add, bin_sub, cmp_lt, cmp_le, cmp_gt, cmp_ge, cmp_eqi, cmp_nei, cmp_in, cmp_nin, b1_int, b1_lenl, b1_lent, b1_tupl, b1_tupt, b1_lstt, b1_lstl, ix_t0, ix_t1, isi_tup, isi_int, isi_nb, ev_b1v, ev_b1x, ev_b1c, ev_b1f, ev_b1b, ev_b1n, ev_b1t, ev_b1l, ev_b1s, if_true, if_false, Bool.false_eq_true, Bool.not_true, Bool.not_false, Bool.true_eq_false, ix_wb0]) (fun x x0 x1 => by simp only [exs_cons, exs_nil, ex_set, ex_sef, ex_unp, ex_par, ex_app, ex_ext, ex_six, ex_exp, ex_ret, ex_retv, ex_iff, ex_rse, ex_frz, ev_var, ev_cst, ev_glb, ev_bin, ev_neg, ev_cmp, ev_chn, ev_bo, ev_nt, ev_ite, ev_tup, ev_lst, ev_ix, ev_slc, ev_call, ev_b2, ev_isi, evs_nil, evs_cons, evr_nil, evr_cons, evB_one, evB_cons, pk, peek, nth, put, bindL_nil, bindL_cons, bindR_nil, bindR_cons, frzL, dat_v, dat_l, Res.dat_v, Res.dat_l, okb, exb, List.map_cons, List.map_nil, toI_int, toB_bool, bin_add, bin_sub, cmp_lt, cmp_le, cmp_gt, cmp_ge, cmp_eqi, cmp_nei, cmp_in, cmp_nin, b1_int, b1_lenl, b1_lent, b1_tupl, b1_tupt, b1_lstt, b1_lstl, ix_t0, ix_t1, isi_tup, isi_int, isi_nb, ev_b1v, ev_b1x, ev_b1c, ev_b1f, ev_b1b, ev_b1n, ev_b1t, ev_b1l, ev_b1s, if_true, if_false, Bool.false_eq_true, Bool.not_true, Bool.not_false, Bool.true_eq_false, ix_tl ⟨x0, x1⟩, cmp_isn, none_td]) (fun x x0 x1 _ => by simp only [exs_cons, exs_nil, ex_set, ex_sef, ex_unp, ex_par, ex_app, ex_ext, ex_six, ex_exp, ex_ret, ex_retv, ex_iff, ex_rse, ex_frz, ev_var, ev_cst, ev_glb, ev_bin, ev_neg, ev_cmp, ev_chn, ev_bo, ev_nt, ev_ite, ev_tup, ev_lst, ev_ix, ev_slc, ev_call, ev_b2, ev_isi, evs_nil, evs_cons, evr_nil, evr_cons, evB_one, evB_cons, pk, peek, nth, put, bindL_nil, bindL_cons, bindR_nil, bindR_cons, frzL, dat_v, dat_l, Res.dat_v, Res.dat_l, okb, exb, List.map_cons, List.map_nil, toI_int, toB_bool, bin_add, bin_sub, cmp_lt, cmp_le, cmp_gt, cmp_ge, cmp_eqi, cmp_nei, cmp_in, cmp_nin, b1_int, b1_lenl, b1_lent, b1_tupl, b1_tupt, b1_lstt, b1_lstl, ix_t0, ix_t1, isi_tup, isi_int, isi_nb, ev_b1v, ev_b1x, ev_b1c, ev_b1f, ev_b1b, ev_b1n, ev_b1t, ev_b1l, ev_b1s, if_true, if_false, Bool.false_eq_true, Bool.not_true, Bool.not_false, Bool.true_eq_false])]
        have eE : (st n fun p => !(ft n es S B p).isNone) = st n (bt n es S B 7) := st_congr fun x x0 x1 => by
          refine bool_ext (fun h => ?_) fun h => ?_
          · cases q : ft n es S B x with
            | none => rw [q] at h; cases h
            | some k =>
              obtain ⟨h1, h2, _⟩ := ft_some.mp q
              exact bt_mono (by omega) h2
          · obtain ⟨j, _, q⟩ := ft_ex (k := 7) (by omega) h
            rw [q]
            rfl
        rw [eE]
        have e6 : cmpD .eq (.tuple (ofI (st n (bt n es S B 7)))) (.tuple (ofI (st n (bt n es S B 7)))) = .ok true := cmp_eq_same (k := 1) (pl_ofI _ 0) (by omega)
        have e7 : (st n (bt n es S B 7)).map (fun k => PyData.int k) = ofI (st n (bt n es S B 7)) := rfl
        rw [e7]
        simp only [exs_cons, exs_nil, ex_set, ex_sef, ex_unp, ex_par, ex_app, ex_ext, ex_six, ex_exp, ex_ret, ex_retv, ex_iff, ex_rse, ex_frz, ev_var, ev_cst, ev_glb, ev_bin, ev_neg, ev_cmp, ev_chn, ev_bo, ev_nt, ev_ite, ev_tup, ev_lst, ev_ix, ev_slc, ev_call, ev_b2, ev_isi, evs_nil, evs_cons, evr_nil, evr_cons, evB_one, evB_cons, pk, peek, nth, put, bindL_nil, bindL_cons, bindR_nil, bindR_cons, frzL, dat_v, dat_l, Res.dat_v, Res.dat_l, okb, exb, List.map_cons, List.map_nil, toI_int, toB_bool, bin_add, bin_sub, cmp_lt, cmp_le, cmp_gt, cmp_ge, cmp_eqi, cmp_nei, cmp_in, cmp_nin, b1_int, b1_lenl, b1_lent, b1_tupl, b1_tupt, b1_lstt, b1_lstl, ix_t0, ix_t1, isi_tup, isi_int, isi_nb, ev_b1v, ev_b1x, ev_b1c, ev_b1f, ev_b1b, ev_b1n, ev_b1t, ev_b1l, ev_b1s, if_true, if_false, Bool.false_eq_true, Bool.not_true, Bool.not_false, Bool.true_eq_false, e6]
    · simp only [exs_cons, exs_nil, ex_set, ex_sef, ex_unp, ex_par, ex_app, ex_ext, ex_six, ex_exp, ex_ret, ex_retv, ex_iff, ex_rse, ex_frz, ev_var, ev_cst, ev_glb, ev_bin, ev_neg, ev_cmp, ev_chn, ev_bo, ev_nt, ev_ite, ev_tup, ev_lst, ev_ix, ev_slc, ev_call, ev_b2, ev_isi, evs_nil, evs_cons, evr_nil, evr_cons, evB_one, evB_cons, pk, peek, nth, put, bindL_nil, bindL_cons, bindR_nil, bindR_cons, frzL, dat_v, dat_l, Res.dat_v, Res.dat_l, okb, exb, List.map_cons, List.map_nil, toI_int, toB_bool, bin_add, bin_sub, cmp_lt, cmp_le, cmp_gt, cmp_ge, cmp_eqi, cmp_nei, cmp_in, cmp_nin, b1_int, b1_lenl, b1_lent, b1_tupl, b1_tupt, b1_lstt, b1_lstl, ix_t0, ix_t1, isi_tup, isi_int, isi_nb, ev_b1v, ev_b1x, ev_b1c, ev_b1f, ev_b1b, ev_b1n, ev_b1t, ev_b1l, ev_b1s, if_true, if_false, Bool.false_eq_true, Bool.not_true, Bool.not_false, Bool.true_eq_false, cmp_ne_nil]
      congr 1
      refine bool_ext (fun h => ?_) fun h => ?_
      · refine decide_eq_true (fq_iff.mp fun z => ?_)
        rw [z] at h
        cases h
      · have := fq_iff.mpr (of_decide_eq_true h)
        cases q : fq n es S B (j + 1) with
        | nil => exact absurd q this
        | cons a l => rfl
end HF

set_option Elab.async false
set_option linter.all false
set_option maxRecDepth 100000
set_option maxHeartbeats 4000000
/-! ### GH: parts of webs -/
namespace HF
open PySem
theorem frp_yes {α β : Type} {cl : Nat → List Res → O Res} {G : List PyData} {fuel : Nat} {tgt : List Nat} {f i : Nat} {es : Es} {body : Ss} {r : Env} {enc : α → PyData} {xs ds : List PyData} {d : PyData} {ys : List α} {k : Flow → O β} {P : β → Prop} (I : List α → Env → Prop)
    (hn : nth r i = some (.l xs)) (hl : xs.getLast? = some d) (ha : evs cl G es r = .ok ds) (hc : cl f ((ds ++ [d]).map .v) = .ok (.l (ys.map enc))) (h0 : I ys (put r i (.l xs.dropLast)))
    (hs : ∀ x xs r, I (x :: xs) r → ∃ r1, bindT tgt (enc x) r = .ok r1 ∧ Yes (exs cl G fuel body r1) fun fl => ∃ r2, fl = .nx r2 ∧ I xs r2) (hk : ∀ r', I [] r' → Yes (k (.nx r')) P) :
    Yes ((ex cl G fuel (.frp tgt f es i body) r).bind k) P := by
  obtain ⟨r', e, h⟩ := for_ok (tgt := tgt) (fb := fun r => exs cl G fuel body r) (enc := enc) I ys (put r i (.l xs.dropLast)) h0 fun x xs r h => by
    obtain ⟨r1, e1, fl, e2, r2, rfl, h2⟩ := hs x xs r h
    exact ⟨r1, r2, e1, e2, h2⟩
  have e2 : ex cl G fuel (.frp tgt f es i body) r = .ok (.nx r') := by
    simp only [ex, hn, hl, ha, O.ok_bind, hc, O.noex_ok, Res.dat_l, lstItems, e]
  rw [e2]
  exact hk r' h
theorem whl_yes {β : Type} {cl : Nat → List Res → O Res} {G : List PyData} {c : E} {body : Ss} {r : Env} {k : Flow → O β} {P : β → Prop} (I : Nat → Env → Prop) (m : Nat) (hm : m < 1000) (h0 : I m r)
    (hs : ∀ m r, I m r → ((dat (ev cl G c r)).bind toB = .ok false) ∨ ((dat (ev cl G c r)).bind toB = .ok true ∧ Yes (exs cl G 1000 body r) fun fl => ∃ m' r', m' < m ∧ fl = .nx r' ∧ I m' r')) (hk : ∀ m r', I m r' → (dat (ev cl G c r')).bind toB = .ok false → Yes (k (.nx r')) P) :
    Yes ((ex cl G 1000 (.whl c body) r).bind k) P := by
  obtain ⟨m', r', e, h, h'⟩ := whl_ok (fc := fun r => (dat (ev cl G c r)).bind toB) (fb := fun r => exs cl G 1000 body r) I (fun m r h => by
    rcases hs m r h with z | ⟨z, fl, e, m', r', q1, rfl, q2⟩
    · exact .inl z
    · exact .inr ⟨z, m', r', q1, e, q2⟩) 1000 m r h0 hm
  rw [ex_whl, e]
  exact hk m' r' h h'
theorem nodup_len {n : Nat} {l : List Int} (nd : l.Nodup) (h : ∀ q ∈ l, In n q) : l.length ≤ n := by
  have h1 : (isort ltI l).length = l.length := (isort_perm ltI l).length_eq
  have h2 : isort ltI l = st n fun x => decide (x ∈ l) := isort_st nd fun z => by
    rw [decide_eq_true_eq]
    exact ⟨fun hz => ⟨h z hz, hz⟩, fun hz => hz.2⟩
  have h3 := st_len n fun x => decide (x ∈ l)
  rw [← h2, h1] at h3
  exact h3
/-- q is come to from p, some being gone -/
def rc (n : Nat) (es : List (Int × Int)) (g : Int → Bool) (p q : Int) : Bool := bt n es g (fun x => decide (x = p)) 7 q
section
variable {n : Nat} {es : List (Int × Int)} {g : Int → Bool}
theorem rc_self (p : Int) : rc n es g p p = true := bt_mono (k := 0) (by omega) (decide_eq_true rfl)
theorem rc_of (hn : n ≤ 7) {p q : Int} {k : Nat} (hq : In n q) (h : bt n es g (fun x => decide (x = p)) k q = true) : rc n es g p q = true := bt_end hn hq h
theorem rc_step (hn : n ≤ 7) {p q x : Int} (hq : In n q) (hx : In n x) (h : rc n es g p q = true) (ha : adj es q x = true) (hg : g x = false) : rc n es g p x = true :=
  rc_of hn (k := 8) hx (nx_iff.mpr (.inr ⟨hg, nb_iff.mpr ⟨q, hq, by rw [adj_symm]; exact ha, h⟩⟩))
theorem rc_gone {p q : Int} (hp : g p = false) (hq : In n q) (h : rc n es g p q = true) : g q = false := by
  cases z : g q with
  | false => rfl
  | true =>
    have := bt_saved (n := n) (es := es) (S := g) (B := fun x => decide (x = p)) (fun y _ hy => decide_eq_false fun e => by rw [e, hp] at hy; cases hy) 7 q hq z
    unfold rc at h
    rw [this] at h
    cases h
theorem rc_trans (hn : n ≤ 7) {a b c : Int} (hc : In n c) (h1 : rc n es g a b = true) (h2 : rc n es g b c = true) : rc n es g a c = true := by
  have h3 : bt n es g (bt n es g (fun x => decide (x = a)) 7) 7 c = true := bt_le (fun p _ hp => by rw [of_decide_eq_true hp]; exact h1) (fun _ _ h => h) (fun _ _ h => h) 7 c hc h2
  rw [bt_shift] at h3
  exact rc_of hn hc h3
theorem rc_back (hn : n ≤ 7) {a : Int} (ha : In n a) (hg : g a = false) : ∀ (k : Nat) (b : Int), In n b → bt n es g (fun x => decide (x = a)) k b = true → rc n es g b a = true
  | 0, b, _, h => by
    have e : b = a := of_decide_eq_true h
    rw [e]
    exact rc_self a
  | k + 1, b, hb, h => by
    rcases nx_iff.mp h with h | ⟨h1, h2⟩
    · exact rc_back hn ha hg k b hb h
    · obtain ⟨x, hx, hax, hxb⟩ := nb_iff.mp h2
      have i1 := rc_back hn ha hg k x hx hxb
      have gx : g x = false := rc_gone hg hx (rc_of hn hx hxb)
      exact rc_trans hn ha (rc_step hn hb hx (rc_self b) hax gx) i1
theorem rc_symm (hn : n ≤ 7) {a b : Int} (ha : In n a) (hb : In n b) (hg : g a = false) (h : rc n es g a b = true) : rc n es g b a = true := rc_back hn ha hg 7 b hb h
/-- the first of its part -/
def lead (n : Nat) (es : List (Int × Int)) (g : Int → Bool) (p : Int) : Bool := !g p && !((rg n).any fun q => decide (q < p) && (!g q && rc n es g q p))
theorem lead_iff {p : Int} : lead n es g p = true ↔ g p = false ∧ ∀ q, In n q → q < p → g q = false → rc n es g q p = false := by
  unfold lead
  rw [Bool.and_eq_true, Bool.not_eq_true', Bool.not_eq_true', List.any_eq_false]
  constructor
  · rintro ⟨h1, h2⟩
    refine ⟨h1, fun q hq hlt hg => ?_⟩
    have := h2 q (mem_rg.mpr hq)
    cases z : rc n es g q p with
    | false => rfl
    | true => exact absurd (by simp [hlt, hg, z]) this
  · rintro ⟨h1, h2⟩
    refine ⟨h1, fun q hq z => ?_⟩
    simp only [Bool.and_eq_true, decide_eq_true_eq, Bool.not_eq_true'] at z
    rw [h2 q (mem_rg.mp hq) z.1 z.2.1] at z
    exact absurd z.2.2 (by simp)
theorem lead_ex (hn : n ≤ 7) {x : Int} (hx : In n x) : ∀ (m : Nat) (q : Int), q.toNat ≤ m → In n q → g q = false → rc n es g q x = true → ∃ q', In n q' ∧ q' ≤ q ∧ lead n es g q' = true ∧ rc n es g q' x = true := by
  intro m
  induction m with
  | zero =>
    intro q hm hq hg hr
    refine ⟨q, hq, Int.le_refl _, lead_iff.mpr ⟨hg, fun y hy hlt _ => ?_⟩, hr⟩
    omega
  | succ m ih =>
    intro q hm hq hg hr
    by_cases hl : lead n es g q = true
    · exact ⟨q, hq, Int.le_refl _, hl, hr⟩
    · have ⟨y, hy, hlt, gy, ry⟩ : ∃ y, In n y ∧ y < q ∧ g y = false ∧ rc n es g y q = true := Classical.byContradiction fun z => hl (lead_iff.mpr ⟨hg, fun y hy hlt gy => by
        cases q2 : rc n es g y q with
        | false => rfl
        | true => exact absurd ⟨y, hy, hlt, gy, q2⟩ z⟩)
      obtain ⟨q', h1, h2, h3, h4⟩ := ih y (by omega) hy gy (rc_trans hn hx ry hr)
      exact ⟨q', h1, by omega, h3, h4⟩
end
/-- all parts -/
def prts (n : Nat) (es : List (Int × Int)) (g : Int → Bool) : List PyData := (st n (lead n es g)).map fun q => .list (ofI (st n (rc n es g q)))
structure Parts (T : List Fn) (G : List PyData) : Prop extends Looks T G where
  f62 : nthF T 62 = some u_part_from
  f63 : nthF T 63 = some u_parts_without
  f64 : nthF T 64 = some u_parts
section
variable {T : List Fn} {G : List PyData} {n : Nat} {es : List (Int × Int)}
theorem part_from_ok (t : Parts T G) (w : WF n es) {p : Int} {gs : List Int} (hp : In n p) (hg : p ∉ gs) (m : Nat) : cal T G (m + 2) 62 [.v (wb n es), .v (.int p), .v (.list (ofI gs))] = .ok (.l (ofI (st n (rc n es (fun q => decide (q ∈ gs)) p)))) := by
  refine Yes.eq ?_
  rw [cal_eq t.f62 rfl]
  show Yes ((exs (cal T G (m + 1)) G 1000 u_part_from.body [some (.v (wb n es)), some (.v (.int p)), some (.v (.list (ofI gs))), none, none, none]).bind _) _
  have hhi := w.hi
  have gp : (fun q => decide (q ∈ gs)) p = false := decide_eq_false hg
  generalize hgd : (fun q : Int => decide (q ∈ gs)) = g at gp
  have ge : ∀ x, decide (x ∈ gs) = g x := fun x => by rw [← hgd]
  unfold u_part_from
  dsimp only
  simp only [exs_cons, exs_nil, ex_set, ex_sef, ex_unp, ex_par, ex_app, ex_ext, ex_six, ex_exp, ex_ret, ex_retv, ex_iff, ex_rse, ex_frz, ev_var, ev_cst, ev_glb, ev_bin, ev_neg, ev_cmp, ev_chn, ev_bo, ev_nt, ev_ite, ev_tup, ev_lst, ev_ix, ev_slc, ev_call, ev_b2, ev_isi, evs_nil, evs_cons, evr_nil, evr_cons, evB_one, evB_cons, pk, peek, nth, put, bindL_nil, bindL_cons, bindR_nil, bindR_cons, frzL, dat_v, dat_l, Res.dat_v, Res.dat_l, okb, exb, List.map_cons, List.map_nil, toI_int, toB_bool, bin_add, bin_sub, cmp_lt, cmp_le, cmp_gt, cmp_ge, cmp_eqi, cmp_nei, cmp_in, cmp_nin, b1_int, b1_lenl, b1_lent, b1_tupl, b1_tupt, b1_lstt, b1_lstl, ix_t0, ix_t1, isi_tup, isi_int, isi_nb, ev_b1v, ev_b1x, ev_b1c, ev_b1f, ev_b1b, ev_b1n, ev_b1t, ev_b1l, ev_b1s, if_true, if_false, Bool.false_eq_true, Bool.not_true, Bool.not_false, Bool.true_eq_false, O.bind_assoc]
  refine whl_yes (fun u r => ∃ (fs ls : List Int) (j : Option Res), fs.Nodup ∧ ls.Nodup ∧ (∀ q ∈ fs, In n q ∧ rc n es g p q = true) ∧ p ∈ fs ∧ (∀ q ∈ ls, q ∈ fs) ∧ (∀ q ∈ fs, q ∉ ls → ∀ x, In n x → adj es q x = true → g x = false → x ∈ fs) ∧ u = 2 * (n - fs.length) + ls.length ∧
      r = [some (.v (wb n es)), some (.v (.int p)), some (.v (.list (ofI gs))), some (.l (ofI fs)), some (.l (ofI ls)), j]) (2 * (n - 1) + 1) (by omega)
    ⟨[p], [p], none, by simp, by simp, fun q hq => by rw [List.mem_singleton.mp hq]; exact ⟨hp, rc_self p⟩, by simp, fun q hq => hq, fun q hq hn => absurd hq hn, by simp, rfl⟩ ?_ ?_
  · rintro u r ⟨fs, ls, j, nd, nl, hfs, hpf, hlf, hcl, rfl, rfl⟩
    simp only [exs_cons, exs_nil, ex_set, ex_sef, ex_unp, ex_par, ex_app, ex_ext, ex_six, ex_exp, ex_ret, ex_retv, ex_iff, ex_rse, ex_frz, ev_var, ev_cst, ev_glb, ev_bin, ev_neg, ev_cmp, ev_chn, ev_bo, ev_nt, ev_ite, ev_tup, ev_lst, ev_ix, ev_slc, ev_call, ev_b2, ev_isi, evs_nil, evs_cons, evr_nil, evr_cons, evB_one, evB_cons, pk, peek, nth, put, bindL_nil, bindL_cons, bindR_nil, bindR_cons, frzL, dat_v, dat_l, Res.dat_v, Res.dat_l, okb, exb, List.map_cons, List.map_nil, toI_int, toB_bool, bin_add, bin_sub, cmp_lt, cmp_le, cmp_gt, cmp_ge, cmp_eqi, cmp_nei, cmp_in, cmp_nin, b1_int, b1_lenl, b1_lent, b1_tupl, b1_tupt, b1_lstt, b1_lstl, ix_t0, ix_t1, isi_tup, isi_int, isi_nb, ev_b1v, ev_b1x, ev_b1c, ev_b1f, ev_b1b, ev_b1n, ev_b1t, ev_b1l, ev_b1s, if_true, if_false, Bool.false_eq_true, Bool.not_true, Bool.not_false, Bool.true_eq_false, cmp_ne_nil]
    rcases List.eq_nil_or_concat ls with rfl | ⟨ls', b, hls⟩
    · exact .inl rfl
    · right
      have hls : ls = ls' ++ [b] := by rw [hls, List.concat_eq_append]
      subst hls
      have hb := hfs b (hlf b (by simp))
      rw [List.nodup_append] at nl
      have hbl : b ∉ ls' := fun z => nl.2.2 b z b (by simp) rfl
      have hfl := nodup_len nd fun q hq => (hfs q hq).1
      refine ⟨by cases ls' <;> rfl, ?_⟩
      have hbc := beside_ok t.toLooks w hb.1 m
      have hlast : (ofI (ls' ++ [b])).getLast? = some (.int b) := by simp [ofI]
      have hdrop : (ofI (ls' ++ [b])).dropLast = ofI ls' := by simp [ofI]
      refine frp_yes (enc := .int) (ys := st n (adj es b)) (ds := [wb n es]) (fun ys r => ∃ (d fs1 ls1 : List Int) (j : Option Res), d ++ ys = st n (adj es b) ∧ fs1.Nodup ∧ ls1.Nodup ∧ (∀ q ∈ fs1, In n q ∧ rc n es g p q = true) ∧ p ∈ fs1 ∧ (∀ q ∈ ls1, q ∈ fs1) ∧ b ∈ fs1 ∧ b ∉ ls1 ∧ (∀ q ∈ fs1, q ∉ ls1 → q ≠ b → ∀ x, In n x → adj es q x = true → g x = false → x ∈ fs1) ∧ (∀ x ∈ d, g x = false → x ∈ fs1) ∧
        2 * (n - fs1.length) + ls1.length ≤ 2 * (n - fs.length) + ls'.length ∧ r = [some (.v (wb n es)), some (.v (.int p)), some (.v (.list (ofI gs))), some (.l (ofI fs1)), some (.l (ofI ls1)), j]) rfl hlast (by simp only [exs_cons, exs_nil, ex_set, ex_sef, ex_unp, ex_par, ex_app, ex_ext, ex_six, ex_exp, ex_ret, ex_retv, ex_iff, ex_rse, ex_frz, ev_var, ev_cst, ev_glb, ev_bin, ev_neg, ev_cmp, ev_chn, ev_bo, ev_nt, ev_ite, ev_tup, ev_lst, ev_ix, ev_slc, ev_call, ev_b2, ev_isi, evs_nil, evs_cons, evr_nil, evr_cons, evB_one, evB_cons, pk, peek, nth, put, bindL_nil, bindL_cons, bindR_nil, bindR_cons, frzL, dat_v, dat_l, Res.dat_v, Res.dat_l, okb, exb, List.map_cons, List.map_nil, toI_int, toB_bool, bin_add, bin_sub, cmp_lt, cmp_le, cmp_gt, cmp_ge, cmp_eqi, cmp_nei, cmp_in, cmp_nin, b1_int, b1_lenl, b1_lent, b1_tupl, b1_tupt, b1_lstt, b1_lstl, ix_t0, ix_t1, isi_tup, isi_int, isi_nb, ev_b1v, ev_b1x, ev_b1c, ev_b1f, ev_b1b, ev_b1n, ev_b1t, ev_b1l, ev_b1s, if_true, if_false, Bool.false_eq_true, Bool.not_true, Bool.not_false, Bool.true_eq_false]) hbc
        ⟨[], fs, ls', j, rfl, nd, nl.1, hfs, hpf, fun q hq => hlf q (by simp [hq]), hlf b (by simp), hbl, fun q hq hql hqb => hcl q hq (by simp [hql, hqb]), by simp, Nat.le_refl _, by simp only [put, hdrop]⟩ ?_ ?_
      · rintro x ys r ⟨d, fs1, ls1, j, hd, nd1, nl1, h1, h2, h3, h4, h5, h6, h7, h8, rfl⟩
        have hx := mem_st.mp (show x ∈ st n (adj es b) by rw [← hd]; simp)
        refine ⟨_, rfl, ?_⟩
        have hfl1 := nodup_len nd1 fun q hq => (h1 q hq).1
        have hll1 := nodup_len nl1 fun q hq => (h1 q (h3 q hq)).1
        have c1 : (ofI fs1).length < cap := by rw [ofI_len]; unfold cap; omega
        have c2 : (ofI ls1).length < cap := by rw [ofI_len]; unfold cap; omega
        by_cases hm : x ∈ fs1
        · have hmd : decide (x ∈ fs1) = true := decide_eq_true hm
          simp only [exs_cons, exs_nil, ex_set, ex_sef, ex_unp, ex_par, ex_app, ex_ext, ex_six, ex_exp, ex_ret, ex_retv, ex_iff, ex_rse, ex_frz, ev_var, ev_cst, ev_glb, ev_bin, ev_neg, ev_cmp, ev_chn, ev_bo, ev_nt, ev_ite, ev_tup, ev_lst, ev_ix, ev_slc, ev_call, ev_b2, ev_isi, evs_nil, evs_cons, evr_nil, evr_cons, evB_one, evB_cons, pk, peek, nth, put, bindL_nil, bindL_cons, bindR_nil, bindR_cons, frzL, dat_v, dat_l, Res.dat_v, Res.dat_l, okb, exb, List.map_cons, List.map_nil, toI_int, toB_bool, bin_add, bin_sub, cmp_lt, cmp_le, cmp_gt, cmp_ge, cmp_eqi, cmp_nei, cmp_in, cmp_nin, b1_int, b1_lenl, b1_lent, b1_tupl, b1_tupt, b1_lstt, b1_lstl, ix_t0, ix_t1, isi_tup, isi_int, isi_nb, ev_b1v, ev_b1x, ev_b1c, ev_b1f, ev_b1b, ev_b1n, ev_b1t, ev_b1l, ev_b1s, if_true, if_false, Bool.false_eq_true, Bool.not_true, Bool.not_false, Bool.true_eq_false, in_list, hmd]
          refine yes_ok ⟨_, rfl, d ++ [x], fs1, ls1, _, by simp [hd], nd1, nl1, h1, h2, h3, h4, h5, h6, fun y hy gy => ?_, h8, rfl⟩
          rcases List.mem_append.mp hy with z | z
          · exact h7 y z gy
          · rw [List.mem_singleton.mp z]; exact hm
        · have hmd : decide (x ∈ fs1) = false := decide_eq_false hm
          cases hgx : g x with
          | true =>
            simp only [exs_cons, exs_nil, ex_set, ex_sef, ex_unp, ex_par, ex_app, ex_ext, ex_six, ex_exp, ex_ret, ex_retv, ex_iff, ex_rse, ex_frz, ev_var, ev_cst, ev_glb, ev_bin, ev_neg, ev_cmp, ev_chn, ev_bo, ev_nt, ev_ite, ev_tup, ev_lst, ev_ix, ev_slc, ev_call, ev_b2, ev_isi, evs_nil, evs_cons, evr_nil, evr_cons, evB_one, evB_cons, pk, peek, nth, put, bindL_nil, bindL_cons, bindR_nil, bindR_cons, frzL, dat_v, dat_l, Res.dat_v, Res.dat_l, okb, exb, List.map_cons, List.map_nil, toI_int, toB_bool, bin_add, bin_sub, cmp_lt, cmp_le, cmp_gt, cmp_ge, cmp_eqi, cmp_nei, cmp_in, cmp_nin, b1_int, b1_lenl, b1_lent, b1_tupl, b1_tupt, b1_lstt, b1_lstl, ix_t0, ix_t1, isi_tup, isi_int, isi_nb, ev_b1v, ev_b1x, ev_b1c, ev_b1f, ev_b1b, ev_b1n, ev_b1t, ev_b1l, ev_b1s, if_true, if_false, Bool.false_eq_true, Bool.not_true, Bool.not_false, Bool.true_eq_false, in_list, hmd, ge, hgx]
            refine yes_ok ⟨_, rfl, d ++ [x], fs1, ls1, _, by simp [hd], nd1, nl1, h1, h2, h3, h4, h5, h6, fun y hy gy => ?_, h8, rfl⟩
            rcases List.mem_append.mp hy with z | z
            · exact h7 y z gy
            · rw [List.mem_singleton.mp z, hgx] at gy; cases gy
          | false =>
            simp only [exs_cons, exs_nil, ex_set, ex_sef, ex_unp, ex_par, ex_app, ex_ext, ex_six, ex_exp, ex_ret, ex_retv, ex_iff, ex_rse, ex_frz, ev_var, ev_cst, ev_glb, ev_bin, ev_neg, ev_cmp, ev_chn, ev_bo, ev_nt, ev_ite, ev_tup, ev_lst, ev_ix, ev_slc, ev_call, ev_b2, ev_isi, evs_nil, evs_cons, evr_nil, evr_cons, evB_one, evB_cons, pk, peek, nth, put, bindL_nil, bindL_cons, bindR_nil, bindR_cons, frzL, dat_v, dat_l, Res.dat_v, Res.dat_l, okb, exb, List.map_cons, List.map_nil, toI_int, toB_bool, bin_add, bin_sub, cmp_lt, cmp_le, cmp_gt, cmp_ge, cmp_eqi, cmp_nei, cmp_in, cmp_nin, b1_int, b1_lenl, b1_lent, b1_tupl, b1_tupt, b1_lstt, b1_lstl, ix_t0, ix_t1, isi_tup, isi_int, isi_nb, ev_b1v, ev_b1x, ev_b1c, ev_b1f, ev_b1b, ev_b1n, ev_b1t, ev_b1l, ev_b1s, if_true, if_false, Bool.false_eq_true, Bool.not_true, Bool.not_false, Bool.true_eq_false, in_list, hmd, ge, hgx, c1, c2, ofI_snoc]
            have hxl : x ∉ ls1 := fun z => hm (h3 x z)
            have ndx : (fs1 ++ [x]).Nodup := by
              rw [List.nodup_append]
              exact ⟨nd1, by simp, fun a ha b hb z => by rw [List.mem_singleton] at hb; rw [z, hb] at ha; exact hm ha⟩
            have nlx : (ls1 ++ [x]).Nodup := by
              rw [List.nodup_append]
              exact ⟨nl1, by simp, fun a ha b hb z => by rw [List.mem_singleton] at hb; rw [z, hb] at ha; exact hxl ha⟩
            have h1x : ∀ q ∈ fs1 ++ [x], In n q ∧ rc n es g p q = true := fun q hq => by
              rcases List.mem_append.mp hq with z | z
              · exact h1 q z
              · rw [List.mem_singleton.mp z]
                exact ⟨hx.1, rc_step hhi hb.1 hx.1 hb.2 hx.2 hgx⟩
            have hflx := nodup_len ndx fun q hq => (h1x q hq).1
            refine yes_ok ⟨_, rfl, d ++ [x], fs1 ++ [x], ls1 ++ [x], _, by simp [hd], ndx, nlx, h1x, by simp [h2], fun q hq => ?_, by simp [h4], ?_, fun q hq hql hqb y hy hay gy => ?_, fun y hy gy => ?_, ?_, rfl⟩
            · rcases List.mem_append.mp hq with z | z
              · simp [h3 q z]
              · simp [List.mem_singleton.mp z]
            · intro z
              rcases List.mem_append.mp z with z | z
              · exact h5 z
              · exact hm (List.mem_singleton.mp z ▸ h4)
            · have hq1 : q ∈ fs1 := by
                rcases List.mem_append.mp hq with z | z
                · exact z
                · exact absurd (by simp [List.mem_singleton.mp z]) hql
              exact List.mem_append.mpr (.inl (h6 q hq1 (fun z => hql (by simp [z])) hqb y hy hay gy))
            · rcases List.mem_append.mp hy with z | z
              · simp [h7 y z gy]
              · simp [List.mem_singleton.mp z]
            · simp only [List.length_append, List.length_cons, List.length_nil] at hflx ⊢
              omega
      · rintro r ⟨d, fs1, ls1, j, hd, nd1, nl1, h1, h2, h3, h4, h5, h6, h7, h8, rfl⟩
        rw [List.append_nil] at hd
        refine yes_ok ⟨2 * (n - fs1.length) + ls1.length, _, by simp only [List.length_append, List.length_cons, List.length_nil]; omega, rfl, fs1, ls1, j, nd1, nl1, h1, h2, h3, fun q hq hql x hx hax gx => ?_, rfl, rfl⟩
        by_cases e : q = b
        · exact h7 x (by rw [hd]; exact mem_st.mpr ⟨hx, by rw [← e]; exact hax⟩) gx
        · exact h6 q hq hql e x hx hax gx
  · rintro u r ⟨fs, ls, j, nd, _, hfs, hpf, hlf, hcl, _, rfl⟩ h'
    simp only [exs_cons, exs_nil, ex_set, ex_sef, ex_unp, ex_par, ex_app, ex_ext, ex_six, ex_exp, ex_ret, ex_retv, ex_iff, ex_rse, ex_frz, ev_var, ev_cst, ev_glb, ev_bin, ev_neg, ev_cmp, ev_chn, ev_bo, ev_nt, ev_ite, ev_tup, ev_lst, ev_ix, ev_slc, ev_call, ev_b2, ev_isi, evs_nil, evs_cons, evr_nil, evr_cons, evB_one, evB_cons, pk, peek, nth, put, bindL_nil, bindL_cons, bindR_nil, bindR_cons, frzL, dat_v, dat_l, Res.dat_v, Res.dat_l, okb, exb, List.map_cons, List.map_nil, toI_int, toB_bool, bin_add, bin_sub, cmp_lt, cmp_le, cmp_gt, cmp_ge, cmp_eqi, cmp_nei, cmp_in, cmp_nin, b1_int, b1_lenl, b1_lent, b1_tupl, b1_tupt, b1_lstt, b1_lstl, ix_t0, ix_t1, isi_tup, isi_int, isi_nb, ev_b1v, ev_b1x, ev_b1c, ev_b1f, ev_b1b, ev_b1n, ev_b1t, ev_b1l, ev_b1s, if_true, if_false, Bool.false_eq_true, Bool.not_true, Bool.not_false, Bool.true_eq_false, cmp_ne_nil] at h'
    have hls : ls = [] := by
      cases ls with
      | nil => rfl
      | cons a l => cases h'
    subst hls
    have es' : isort ltI fs = st n (rc n es g p) := isort_st nd fun q => by
      refine ⟨hfs q, fun ⟨hq, hr⟩ => ?_⟩
      have key : ∀ (k : Nat) (q : Int), In n q → bt n es g (fun x => decide (x = p)) k q = true → q ∈ fs := by
        intro k
        induction k with
        | zero =>
          intro q _ h
          have e : q = p := of_decide_eq_true h
          rw [e]
          exact hpf
        | succ k ih =>
          intro q hq h
          rcases nx_iff.mp h with h | ⟨h1, h2⟩
          · exact ih q hq h
          · obtain ⟨x, hx, hax, hxb⟩ := nb_iff.mp h2
            exact hcl x (ih x hx hxb) (by simp) q hq (by rw [adj_symm]; exact hax) h1
      exact key 7 q hq hr
    simp only [exs_cons, exs_nil, ex_set, ex_sef, ex_unp, ex_par, ex_app, ex_ext, ex_six, ex_exp, ex_ret, ex_retv, ex_iff, ex_rse, ex_frz, ev_var, ev_cst, ev_glb, ev_bin, ev_neg, ev_cmp, ev_chn, ev_bo, ev_nt, ev_ite, ev_tup, ev_lst, ev_ix, ev_slc, ev_call, ev_b2, ev_isi, evs_nil, evs_cons, evr_nil, evr_cons, evB_one, evB_cons, pk, peek, nth, put, bindL_nil, bindL_cons, bindR_nil, bindR_cons, frzL, dat_v, dat_l, Res.dat_v, Res.dat_l, okb, exb, List.map_cons, List.map_nil, toI_int, toB_bool, bin_add, bin_sub, cmp_lt, cmp_le, cmp_gt, cmp_ge, cmp_eqi, cmp_nei, cmp_in, cmp_nin, b1_int, b1_lenl, b1_lent, b1_tupl, b1_tupt, b1_lstt, b1_lstl, ix_t0, ix_t1, isi_tup, isi_int, isi_nb, ev_b1v, ev_b1x, ev_b1c, ev_b1f, ev_b1b, ev_b1n, ev_b1t, ev_b1l, ev_b1s, if_true, if_false, Bool.false_eq_true, Bool.not_true, Bool.not_false, Bool.true_eq_false, b1_sortI, es']
    exact yes_ok rfl
end
end HF

set_option Elab.async false
set_option linter.all false
set_option maxRecDepth 100000
set_option maxHeartbeats 4000000
/-! ### GI: all parts; free places; the best place to be saved -/
namespace HF
open PySem
section
variable {T : List Fn} {G : List PyData} {n : Nat} {es : List (Int × Int)} {B S : Int → Bool}
theorem rg_pre {d xs : List Int} {x : Int} (h : d ++ x :: xs = rg n) (q : Int) : q ∈ d ↔ In n q ∧ q < x := by
  have rs := rg_sorted n
  rw [← h, List.pairwise_append] at rs
  constructor
  · intro hq
    exact ⟨mem_rg.mp (by rw [← h]; simp [hq]), rs.2.2 q hq x (by simp)⟩
  · rintro ⟨hq, hlt⟩
    have hm : q ∈ d ++ x :: xs := by rw [h]; exact mem_rg.mpr hq
    rcases List.mem_append.mp hm with z | z
    · exact z
    · rcases List.mem_cons.mp z with e | z
      · omega
      · have := (List.pairwise_cons.mp rs.2.1).1 q z
        omega
theorem lead_any {g : Int → Bool} {d xs : List Int} {x : Int} (hn : n ≤ 7) (h : d ++ x :: xs = rg n) (hg : g x = false) : ((d.filter (lead n es g)).any fun q => rc n es g q x) = !lead n es g x := by
  have hx : In n x := mem_rg.mp (by rw [← h]; simp)
  refine bool_ext (fun h1 => ?_) fun h1 => ?_
  · obtain ⟨q, hq, hr⟩ := List.any_eq_true.mp h1
    obtain ⟨hqd, hl⟩ := List.mem_filter.mp hq
    obtain ⟨hqn, hlt⟩ := (rg_pre h q).mp hqd
    rw [Bool.not_eq_true']
    cases z : lead n es g x with
    | false => rfl
    | true =>
      have := (lead_iff.mp z).2 q hqn hlt (lead_iff.mp hl).1
      rw [hr] at this
      cases this
  · rw [Bool.not_eq_true'] at h1
    have ⟨y, hy, hlt, gy, ry⟩ : ∃ y, In n y ∧ y < x ∧ g y = false ∧ rc n es g y x = true := Classical.byContradiction fun z => by
      have : lead n es g x = true := lead_iff.mpr ⟨hg, fun y hy hlt gy => by
        cases q2 : rc n es g y x with
        | false => rfl
        | true => exact absurd ⟨y, hy, hlt, gy, q2⟩ z⟩
      rw [h1] at this
      cases this
    obtain ⟨q', a1, a2, a3, a4⟩ := lead_ex hn hx y.toNat y (Nat.le_refl _) hy gy ry
    exact List.any_eq_true.mpr ⟨q', List.mem_filter.mpr ⟨(rg_pre h q').mpr ⟨a1, by omega⟩, a3⟩, a4⟩
theorem parts_without_ok (t : Parts T G) (w : WF n es) {gs : List Int} {g : Int → Bool} (hg : ∀ x, decide (x ∈ gs) = g x) (m : Nat) : cal T G (m + 3) 63 [.v (wb n es), .v (.list (ofI gs))] = .ok (.l (prts n es g)) := by
  rw [cal_eq t.f63 rfl]
  show (exs (cal T G (m + 2)) G 1000 u_parts_without.body [some (.v (wb n es)), some (.v (.list (ofI gs))), none, none, none]).bind _ = _
  have hhi := w.hi
  have ge : (fun q => decide (q ∈ gs)) = g := funext hg
  unfold u_parts_without
  dsimp only
  simp only [exs_cons, exs_nil, ex_set, ex_sef, ex_unp, ex_par, ex_app, ex_ext, ex_six, ex_exp, ex_ret, ex_retv, ex_iff, ex_rse, ex_frz, ev_var, ev_cst, ev_glb, ev_bin, ev_neg, ev_cmp, ev_chn, ev_bo, ev_nt, ev_ite, ev_tup, ev_lst, ev_ix, ev_slc, ev_call, ev_b2, ev_isi, evs_nil, evs_cons, evr_nil, evr_cons, evB_one, evB_cons, pk, peek, nth, put, bindL_nil, bindL_cons, bindR_nil, bindR_cons, frzL, dat_v, dat_l, Res.dat_v, Res.dat_l, okb, exb, List.map_cons, List.map_nil, toI_int, toB_bool, bin_add, bin_sub, cmp_lt, cmp_le, cmp_gt, cmp_ge, cmp_eqi, cmp_nei, cmp_in, cmp_nin, b1_int, b1_lenl, b1_lent, b1_tupl, b1_tupt, b1_lstt, b1_lstl, ix_t0, ix_t1, isi_tup, isi_int, isi_nb, ev_b1v, ev_b1x, ev_b1c, ev_b1f, ev_b1b, ev_b1n, ev_b1t, ev_b1l, ev_b1s, if_true, if_false, Bool.false_eq_true, Bool.not_true, Bool.not_false, Bool.true_eq_false, O.bind_assoc]
  refine fr_bind (enc := .int) (fun xs r => ∃ (d : List Int) (j : Option Res), d ++ xs = rg n ∧ r = [some (.v (wb n es)), some (.v (.list (ofI gs))), some (.l ((d.filter (lead n es g)).map fun q => .list (ofI (st n (rc n es g q))))), j, none])
    (its_rng1 (k := n) (by omega) (by simp only [exs_cons, exs_nil, ex_set, ex_sef, ex_unp, ex_par, ex_app, ex_ext, ex_six, ex_exp, ex_ret, ex_retv, ex_iff, ex_rse, ex_frz, ev_var, ev_cst, ev_glb, ev_bin, ev_neg, ev_cmp, ev_chn, ev_bo, ev_nt, ev_ite, ev_tup, ev_lst, ev_ix, ev_slc, ev_call, ev_b2, ev_isi, evs_nil, evs_cons, evr_nil, evr_cons, evB_one, evB_cons, pk, peek, nth, put, bindL_nil, bindL_cons, bindR_nil, bindR_cons, frzL, dat_v, dat_l, Res.dat_v, Res.dat_l, okb, exb, List.map_cons, List.map_nil, toI_int, toB_bool, bin_add, bin_sub, cmp_lt, cmp_le, cmp_gt, cmp_ge, cmp_eqi, cmp_nei, cmp_in, cmp_nin, b1_int, b1_lenl, b1_lent, b1_tupl, b1_tupt, b1_lstt, b1_lstl, ix_t0, ix_t1, isi_tup, isi_int, isi_nb, ev_b1v, ev_b1x, ev_b1c, ev_b1f, ev_b1b, ev_b1n, ev_b1t, ev_b1l, ev_b1s, if_true, if_false, Bool.false_eq_true, Bool.not_true, Bool.not_false, Bool.true_eq_false, ix_wb0])) ⟨[], none, rfl, rfl⟩ ?_ ?_
  · rintro x xs r ⟨d, j, hd, rfl⟩
    have hx : In n x := mem_rg.mp (by rw [← hd]; simp)
    refine ⟨_, _, rfl, ?_, d ++ [x], some (.v (.int x)), by simp [hd], rfl⟩
    rw [filt_snoc]
    cases hgx : g x with
    | true =>
      have hl : lead n es g x = false := by unfold lead; rw [hgx]; rfl
      simp only [exs_cons, exs_nil, ex_set, ex_sef, ex_unp, ex_par, ex_app, ex_ext, ex_six, ex_exp, ex_ret, ex_retv, ex_iff, ex_rse, ex_frz, ev_var, ev_cst, ev_glb, ev_bin, ev_neg, ev_cmp, ev_chn, ev_bo, ev_nt, ev_ite, ev_tup, ev_lst, ev_ix, ev_slc, ev_call, ev_b2, ev_isi, evs_nil, evs_cons, evr_nil, evr_cons, evB_one, evB_cons, pk, peek, nth, put, bindL_nil, bindL_cons, bindR_nil, bindR_cons, frzL, dat_v, dat_l, Res.dat_v, Res.dat_l, okb, exb, List.map_cons, List.map_nil, toI_int, toB_bool, bin_add, bin_sub, cmp_lt, cmp_le, cmp_gt, cmp_ge, cmp_eqi, cmp_nei, cmp_in, cmp_nin, b1_int, b1_lenl, b1_lent, b1_tupl, b1_tupt, b1_lstt, b1_lstl, ix_t0, ix_t1, isi_tup, isi_int, isi_nb, ev_b1v, ev_b1x, ev_b1c, ev_b1f, ev_b1b, ev_b1n, ev_b1t, ev_b1l, ev_b1s, if_true, if_false, Bool.false_eq_true, Bool.not_true, Bool.not_false, Bool.true_eq_false, in_list, hg, hgx, hl, List.append_nil]
    | false =>
      simp only [exs_cons, exs_nil, ex_set, ex_sef, ex_unp, ex_par, ex_app, ex_ext, ex_six, ex_exp, ex_ret, ex_retv, ex_iff, ex_rse, ex_frz, ev_var, ev_cst, ev_glb, ev_bin, ev_neg, ev_cmp, ev_chn, ev_bo, ev_nt, ev_ite, ev_tup, ev_lst, ev_ix, ev_slc, ev_call, ev_b2, ev_isi, evs_nil, evs_cons, evr_nil, evr_cons, evB_one, evB_cons, pk, peek, nth, put, bindL_nil, bindL_cons, bindR_nil, bindR_cons, frzL, dat_v, dat_l, Res.dat_v, Res.dat_l, okb, exb, List.map_cons, List.map_nil, toI_int, toB_bool, bin_add, bin_sub, cmp_lt, cmp_le, cmp_gt, cmp_ge, cmp_eqi, cmp_nei, cmp_in, cmp_nin, b1_int, b1_lenl, b1_lent, b1_tupl, b1_tupt, b1_lstt, b1_lstl, ix_t0, ix_t1, isi_tup, isi_int, isi_nb, ev_b1v, ev_b1x, ev_b1c, ev_b1f, ev_b1b, ev_b1n, ev_b1t, ev_b1l, ev_b1s, if_true, if_false, Bool.false_eq_true, Bool.not_true, Bool.not_false, Bool.true_eq_false, in_list, hg, hgx]
      rw [ev_comp (xs := d.filter (lead n es g)) (enc := fun q => .list (ofI (st n (rc n es g q)))) (fun q => [some (.v (wb n es)), some (.v (.list (ofI gs))), some (.l ((d.filter (lead n es g)).map fun q => .list (ofI (st n (rc n es g q))))), some (.v (.int x)), some (.v (.list (ofI (st n (rc n es g q)))))]) (fun _ => true) (fun q => .bool (rc n es g q x)) (by rfl) (fun q _ => rfl) (fun q _ => by simp only [exs_cons, exs_nil, ex_set, ex_sef, ex_unp, ex_par, ex_app, ex_ext, ex_six, ex_exp, ex_ret, ex_retv, ex_iff, ex_rse, ex_frz, ev_var, ev_cst, ev_glb, ev_bin, ev_neg, ev_cmp, ev_chn, ev_bo, ev_nt, ev_ite, ev_tup, ev_lst, ev_ix, ev_slc, ev_call, ev_b2, ev_isi, evs_nil, evs_cons, evr_nil, evr_cons, evB_one, evB_cons, pk, peek, nth, put, bindL_nil, bindL_cons, bindR_nil, bindR_cons, frzL, dat_v, dat_l, Res.dat_v, Res.dat_l, okb, exb, List.map_cons, List.map_nil, toI_int, toB_bool, bin_add, bin_sub, cmp_lt, cmp_le, cmp_gt, cmp_ge, cmp_eqi, cmp_nei, cmp_in, cmp_nin, b1_int, b1_lenl, b1_lent, b1_tupl, b1_tupt, b1_lstt, b1_lstl, ix_t0, ix_t1, isi_tup, isi_int, isi_nb, ev_b1v, ev_b1x, ev_b1c, ev_b1f, ev_b1b, ev_b1n, ev_b1t, ev_b1l, ev_b1s, if_true, if_false, Bool.false_eq_true, Bool.not_true, Bool.not_false, Bool.true_eq_false]) (fun q _ _ => by simp only [exs_cons, exs_nil, ex_set, ex_sef, ex_unp, ex_par, ex_app, ex_ext, ex_six, ex_exp, ex_ret, ex_retv, ex_iff, ex_rse, ex_frz, ev_var, ev_cst, ev_glb, ev_bin, ev_neg, ev_cmp, ev_chn, ev_bo, ev_nt, ev_ite, ev_tup, ev_lst, ev_ix, ev_slc, ev_call, ev_b2, ev_isi, evs_nil, evs_cons, evr_nil, evr_cons, evB_one, evB_cons, pk, peek, nth, put, bindL_nil, bindL_cons, bindR_nil, bindR_cons, frzL, dat_v, dat_l, Res.dat_v, Res.dat_l, okb, exb, List.map_cons, List.map_nil, toI_int, toB_bool, bin_add, bin_sub, cmp_lt, cmp_le, cmp_gt, cmp_ge, cmp_eqi, cmp_nei, cmp_in, cmp_nin, b1_int, b1_lenl, b1_lent, b1_tupl, b1_tupt, b1_lstt, b1_lstl, ix_t0, ix_t1, isi_tup, isi_int, isi_nb, ev_b1v, ev_b1x, ev_b1c, ev_b1f, ev_b1b, ev_b1n, ev_b1t, ev_b1l, ev_b1s, if_true, if_false, Bool.false_eq_true, Bool.not_true, Bool.not_false, Bool.true_eq_false, in_list, mem_dec hx])]
      rw [filt_true]
      simp only [exs_cons, exs_nil, ex_set, ex_sef, ex_unp, ex_par, ex_app, ex_ext, ex_six, ex_exp, ex_ret, ex_retv, ex_iff, ex_rse, ex_frz, ev_var, ev_cst, ev_glb, ev_bin, ev_neg, ev_cmp, ev_chn, ev_bo, ev_nt, ev_ite, ev_tup, ev_lst, ev_ix, ev_slc, ev_call, ev_b2, ev_isi, evs_nil, evs_cons, evr_nil, evr_cons, evB_one, evB_cons, pk, peek, nth, put, bindL_nil, bindL_cons, bindR_nil, bindR_cons, frzL, dat_v, dat_l, Res.dat_v, Res.dat_l, okb, exb, List.map_cons, List.map_nil, toI_int, toB_bool, bin_add, bin_sub, cmp_lt, cmp_le, cmp_gt, cmp_ge, cmp_eqi, cmp_nei, cmp_in, cmp_nin, b1_int, b1_lenl, b1_lent, b1_tupl, b1_tupt, b1_lstt, b1_lstl, ix_t0, ix_t1, isi_tup, isi_int, isi_nb, ev_b1v, ev_b1x, ev_b1c, ev_b1f, ev_b1b, ev_b1n, ev_b1t, ev_b1l, ev_b1s, if_true, if_false, Bool.false_eq_true, Bool.not_true, Bool.not_false, Bool.true_eq_false, b1_any, lead_any hhi hd hgx]
      cases hl : lead n es g x with
      | false => simp only [exs_cons, exs_nil, ex_set, ex_sef, ex_unp, ex_par, ex_app, ex_ext, ex_six, ex_exp, ex_ret, ex_retv, ex_iff, ex_rse, ex_frz, ev_var, ev_cst, ev_glb, ev_bin, ev_neg, ev_cmp, ev_chn, ev_bo, ev_nt, ev_ite, ev_tup, ev_lst, ev_ix, ev_slc, ev_call, ev_b2, ev_isi, evs_nil, evs_cons, evr_nil, evr_cons, evB_one, evB_cons, pk, peek, nth, put, bindL_nil, bindL_cons, bindR_nil, bindR_cons, frzL, dat_v, dat_l, Res.dat_v, Res.dat_l, okb, exb, List.map_cons, List.map_nil, toI_int, toB_bool, bin_add, bin_sub, cmp_lt, cmp_le, cmp_gt, cmp_ge, cmp_eqi, cmp_nei, cmp_in, cmp_nin, b1_int, b1_lenl, b1_lent, b1_tupl, b1_tupt, b1_lstt, b1_lstl, ix_t0, ix_t1, isi_tup, isi_int, isi_nb, ev_b1v, ev_b1x, ev_b1c, ev_b1f, ev_b1b, ev_b1n, ev_b1t, ev_b1l, ev_b1s, if_true, if_false, Bool.false_eq_true, Bool.not_true, Bool.not_false, Bool.true_eq_false, List.append_nil]
      | true =>
        have hc := part_from_ok (gs := gs) t w hx (of_decide_eq_false ((hg x).trans hgx)) m
        rw [ge] at hc
        have hlen : ((d.filter (lead n es g)).map fun q => PyData.list (ofI (st n (rc n es g q)))).length < cap := by
          have h1 := List.length_filter_le (lead n es g) d
          have h2 := congrArg List.length hd
          rw [rg_length, List.length_append] at h2
          rw [List.length_map]
          unfold cap
          omega
        simp only [exs_cons, exs_nil, ex_set, ex_sef, ex_unp, ex_par, ex_app, ex_ext, ex_six, ex_exp, ex_ret, ex_retv, ex_iff, ex_rse, ex_frz, ev_var, ev_cst, ev_glb, ev_bin, ev_neg, ev_cmp, ev_chn, ev_bo, ev_nt, ev_ite, ev_tup, ev_lst, ev_ix, ev_slc, ev_call, ev_b2, ev_isi, evs_nil, evs_cons, evr_nil, evr_cons, evB_one, evB_cons, pk, peek, nth, put, bindL_nil, bindL_cons, bindR_nil, bindR_cons, frzL, dat_v, dat_l, Res.dat_v, Res.dat_l, okb, exb, List.map_cons, List.map_nil, toI_int, toB_bool, bin_add, bin_sub, cmp_lt, cmp_le, cmp_gt, cmp_ge, cmp_eqi, cmp_nei, cmp_in, cmp_nin, b1_int, b1_lenl, b1_lent, b1_tupl, b1_tupt, b1_lstt, b1_lstl, ix_t0, ix_t1, isi_tup, isi_int, isi_nb, ev_b1v, ev_b1x, ev_b1c, ev_b1f, ev_b1b, ev_b1n, ev_b1t, ev_b1l, ev_b1s, if_true, if_false, Bool.false_eq_true, Bool.not_true, Bool.not_false, Bool.true_eq_false, hc, hlen, List.map_append]
  · rintro r ⟨d, j, hd, rfl⟩
    rw [List.append_nil] at hd
    subst hd
    simp only [exs_cons, exs_nil, ex_set, ex_sef, ex_unp, ex_par, ex_app, ex_ext, ex_six, ex_exp, ex_ret, ex_retv, ex_iff, ex_rse, ex_frz, ev_var, ev_cst, ev_glb, ev_bin, ev_neg, ev_cmp, ev_chn, ev_bo, ev_nt, ev_ite, ev_tup, ev_lst, ev_ix, ev_slc, ev_call, ev_b2, ev_isi, evs_nil, evs_cons, evr_nil, evr_cons, evB_one, evB_cons, pk, peek, nth, put, bindL_nil, bindL_cons, bindR_nil, bindR_cons, frzL, dat_v, dat_l, Res.dat_v, Res.dat_l, okb, exb, List.map_cons, List.map_nil, toI_int, toB_bool, bin_add, bin_sub, cmp_lt, cmp_le, cmp_gt, cmp_ge, cmp_eqi, cmp_nei, cmp_in, cmp_nin, b1_int, b1_lenl, b1_lent, b1_tupl, b1_tupt, b1_lstt, b1_lstl, ix_t0, ix_t1, isi_tup, isi_int, isi_nb, ev_b1v, ev_b1x, ev_b1c, ev_b1f, ev_b1b, ev_b1n, ev_b1t, ev_b1l, ev_b1s, if_true, if_false, Bool.false_eq_true, Bool.not_true, Bool.not_false, Bool.true_eq_false]
    rfl
def none1 : Int → Bool := fun _ => false
theorem nil_dec (x : Int) : decide (x ∈ ([] : List Int)) = none1 x := by simp [none1]
theorem parts_ok (t : Parts T G) (w : WF n es) (m : Nat) : cal T G (m + 5) 64 [.v (wb n es)] = .ok (.l (prts n es none1)) := by
  rw [cal_eq t.f64 rfl]
  show (exs (cal T G (m + 4)) G 1000 u_parts.body [some (.v (wb n es))]).bind _ = _
  have h : cal T G (m + 4) 63 [.v (wb n es), .v (.list [])] = .ok (.l (prts n es none1)) := parts_without_ok t w (gs := []) nil_dec (m + 1)
  unfold u_parts
  dsimp only
  simp only [exs_cons, exs_nil, ex_set, ex_sef, ex_unp, ex_par, ex_app, ex_ext, ex_six, ex_exp, ex_ret, ex_retv, ex_iff, ex_rse, ex_frz, ev_var, ev_cst, ev_glb, ev_bin, ev_neg, ev_cmp, ev_chn, ev_bo, ev_nt, ev_ite, ev_tup, ev_lst, ev_ix, ev_slc, ev_call, ev_b2, ev_isi, evs_nil, evs_cons, evr_nil, evr_cons, evB_one, evB_cons, pk, peek, nth, put, bindL_nil, bindL_cons, bindR_nil, bindR_cons, frzL, dat_v, dat_l, Res.dat_v, Res.dat_l, okb, exb, List.map_cons, List.map_nil, toI_int, toB_bool, bin_add, bin_sub, cmp_lt, cmp_le, cmp_gt, cmp_ge, cmp_eqi, cmp_nei, cmp_in, cmp_nin, b1_int, b1_lenl, b1_lent, b1_tupl, b1_tupt, b1_lstt, b1_lstl, ix_t0, ix_t1, isi_tup, isi_int, isi_nb, ev_b1v, ev_b1x, ev_b1c, ev_b1f, ev_b1b, ev_b1n, ev_b1t, ev_b1l, ev_b1s, if_true, if_false, Bool.false_eq_true, Bool.not_true, Bool.not_false, Bool.true_eq_false, look_web_ok t.toLooks w m, h]
/-- places that will burn -/
def frp (n : Nat) (es : List (Int × Int)) (S B : Int → Bool) : List Int := st n fun p => bt n es S B 7 p && !B p
theorem free_places_ok (t : Stands T G) (h47 : nthF T 47 = some u_left_alone) (h80 : nthF T 80 = some u_free_places) (w : WF n es) (m : Nat) : cal T G (m + 5) 80 [.v (wb n es), .v (sd n B S)] = .ok (.l (ofI (frp n es S B))) := by
  rw [cal_eq h80 rfl]
  show (exs (cal T G (m + 4)) G 1000 u_free_places.body [some (.v (wb n es)), some (.v (sd n B S)), none, none]).bind _ = _
  unfold u_free_places
  dsimp only
  simp only [exs_cons, exs_nil, ex_set, ex_sef, ex_unp, ex_par, ex_app, ex_ext, ex_six, ex_exp, ex_ret, ex_retv, ex_iff, ex_rse, ex_frz, ev_var, ev_cst, ev_glb, ev_bin, ev_neg, ev_cmp, ev_chn, ev_bo, ev_nt, ev_ite, ev_tup, ev_lst, ev_ix, ev_slc, ev_call, ev_b2, ev_isi, evs_nil, evs_cons, evr_nil, evr_cons, evB_one, evB_cons, pk, peek, nth, put, bindL_nil, bindL_cons, bindR_nil, bindR_cons, frzL, dat_v, dat_l, Res.dat_v, Res.dat_l, okb, exb, List.map_cons, List.map_nil, toI_int, toB_bool, bin_add, bin_sub, cmp_lt, cmp_le, cmp_gt, cmp_ge, cmp_eqi, cmp_nei, cmp_in, cmp_nin, b1_int, b1_lenl, b1_lent, b1_tupl, b1_tupt, b1_lstt, b1_lstl, ix_t0, ix_t1, isi_tup, isi_int, isi_nb, ev_b1v, ev_b1x, ev_b1c, ev_b1f, ev_b1b, ev_b1n, ev_b1t, ev_b1l, ev_b1s, if_true, if_false, Bool.false_eq_true, Bool.not_true, Bool.not_false, Bool.true_eq_false, left_alone_ok t h47 w m, ix_sd0]
  rw [comp_l (l := st n (bt n es S B 7)) (c := fun p => !B p) (e := fun p => .int p) (by rfl) (fun p hp => by simp only [exs_cons, exs_nil, ex_set, ex_sef, ex_unp, ex_par, ex_app, ex_ext, ex_six, ex_exp, ex_ret, ex_retv, ex_iff, ex_rse, ex_frz, ev_var, ev_cst, ev_glb, ev_bin, ev_neg, ev_cmp, ev_chn, ev_bo, ev_nt, ev_ite, ev_tup, ev_lst, ev_ix, ev_slc, ev_call, ev_b2, ev_isi, evs_nil, evs_cons, evr_nil, evr_cons, evB_one, evB_cons, pk, peek, nth, put, bindL_nil, bindL_cons, bindR_nil, bindR_cons, frzL, dat_v, dat_l, Res.dat_v, Res.dat_l, okb, exb, List.map_cons, List.map_nil, toI_int, toB_bool, bin_add, bin_sub, cmp_lt, cmp_le, cmp_gt, cmp_ge, cmp_eqi, cmp_nei, cmp_in, cmp_nin, b1_int, b1_lenl, b1_lent, b1_tupl, b1_tupt, b1_lstt, b1_lstl, ix_t0, ix_t1, isi_tup, isi_int, isi_nb, ev_b1v, ev_b1x, ev_b1c, ev_b1f, ev_b1b, ev_b1n, ev_b1t, ev_b1l, ev_b1s, if_true, if_false, Bool.false_eq_true, Bool.not_true, Bool.not_false, Bool.true_eq_false, ix_sd0, in_tup, mem_dec (mem_st.mp hp).1]) (fun p _ _ => by simp only [exs_cons, exs_nil, ex_set, ex_sef, ex_unp, ex_par, ex_app, ex_ext, ex_six, ex_exp, ex_ret, ex_retv, ex_iff, ex_rse, ex_frz, ev_var, ev_cst, ev_glb, ev_bin, ev_neg, ev_cmp, ev_chn, ev_bo, ev_nt, ev_ite, ev_tup, ev_lst, ev_ix, ev_slc, ev_call, ev_b2, ev_isi, evs_nil, evs_cons, evr_nil, evr_cons, evB_one, evB_cons, pk, peek, nth, put, bindL_nil, bindL_cons, bindR_nil, bindR_cons, frzL, dat_v, dat_l, Res.dat_v, Res.dat_l, okb, exb, List.map_cons, List.map_nil, toI_int, toB_bool, bin_add, bin_sub, cmp_lt, cmp_le, cmp_gt, cmp_ge, cmp_eqi, cmp_nei, cmp_in, cmp_nin, b1_int, b1_lenl, b1_lent, b1_tupl, b1_tupt, b1_lstt, b1_lstl, ix_t0, ix_t1, isi_tup, isi_int, isi_nb, ev_b1v, ev_b1x, ev_b1c, ev_b1f, ev_b1b, ev_b1n, ev_b1t, ev_b1l, ev_b1s, if_true, if_false, Bool.false_eq_true, Bool.not_true, Bool.not_false, Bool.true_eq_false])]
  have e : (st n (bt n es S B 7)).filter (fun p => !B p) = frp n es S B := by
    unfold frp st
    rw [List.filter_filter]
    exact List.filter_congr fun x _ => Bool.and_comm _ _
  rw [e]
  rfl
/-- one place out of some, or none -/
def ch1 (F : List Int) : List (List Int) := if F = [] then [[]] else F.map fun x => [x]
theorem choices1_ok (h79 : nthF T 79 = some u_choices) {F : List Int} (hF : F.length ≤ 100) (m : Nat) : cal T G (m + 1) 79 [.v (.list (ofI F)), .v (.int 1)] = .ok (.v (.list ((ch1 F).map fun l => .tuple (ofI l)))) := by
  rw [cal_eq h79 rfl]
  show (exs (cal T G m) G 1000 u_choices.body [some (.v (.list (ofI F))), some (.v (.int 1)), none, none, none, none, none]).bind _ = _
  unfold u_choices
  dsimp only
  simp only [exs_cons, exs_nil, ex_set, ex_sef, ex_unp, ex_par, ex_app, ex_ext, ex_six, ex_exp, ex_ret, ex_retv, ex_iff, ex_rse, ex_frz, ev_var, ev_cst, ev_glb, ev_bin, ev_neg, ev_cmp, ev_chn, ev_bo, ev_nt, ev_ite, ev_tup, ev_lst, ev_ix, ev_slc, ev_call, ev_b2, ev_isi, evs_nil, evs_cons, evr_nil, evr_cons, evB_one, evB_cons, pk, peek, nth, put, bindL_nil, bindL_cons, bindR_nil, bindR_cons, frzL, dat_v, dat_l, Res.dat_v, Res.dat_l, okb, exb, List.map_cons, List.map_nil, toI_int, toB_bool, bin_add, bin_sub, cmp_lt, cmp_le, cmp_gt, cmp_ge, cmp_eqi, cmp_nei, cmp_in, cmp_nin, b1_int, b1_lenl, b1_lent, b1_tupl, b1_tupt, b1_lstt, b1_lstl, ix_t0, ix_t1, isi_tup, isi_int, isi_nb, ev_b1v, ev_b1x, ev_b1c, ev_b1f, ev_b1b, ev_b1n, ev_b1t, ev_b1l, ev_b1s, if_true, if_false, Bool.false_eq_true, Bool.not_true, Bool.not_false, Bool.true_eq_false, O.bind_assoc]
  cases F with
  | nil =>
    refine fr_bind (enc := .int) (xs := []) (fun xs r => xs = [] ∧ r = [some (.v (.list (ofI []))), some (.v (.int 1)), some (.v (.list [.tuple []])), none, none, none, none]) ?_ ⟨rfl, rfl⟩ ?_ ?_
    · exact its_rng1 (k := 0) (by omega) (by simp only [exs_cons, exs_nil, ex_set, ex_sef, ex_unp, ex_par, ex_app, ex_ext, ex_six, ex_exp, ex_ret, ex_retv, ex_iff, ex_rse, ex_frz, ev_var, ev_cst, ev_glb, ev_bin, ev_neg, ev_cmp, ev_chn, ev_bo, ev_nt, ev_ite, ev_tup, ev_lst, ev_ix, ev_slc, ev_call, ev_b2, ev_isi, evs_nil, evs_cons, evr_nil, evr_cons, evB_one, evB_cons, pk, peek, nth, put, bindL_nil, bindL_cons, bindR_nil, bindR_cons, frzL, dat_v, dat_l, Res.dat_v, Res.dat_l, okb, exb, List.map_cons, List.map_nil, toI_int, toB_bool, bin_add, bin_sub, cmp_lt, cmp_le, cmp_gt, cmp_ge, cmp_eqi, cmp_nei, cmp_in, cmp_nin, b1_int, b1_lenl, b1_lent, b1_tupl, b1_tupt, b1_lstt, b1_lstl, ix_t0, ix_t1, isi_tup, isi_int, isi_nb, ev_b1v, ev_b1x, ev_b1c, ev_b1f, ev_b1b, ev_b1n, ev_b1t, ev_b1l, ev_b1s, if_true, if_false, Bool.false_eq_true, Bool.not_true, Bool.not_false, Bool.true_eq_false]; rfl)
    · rintro x xs r ⟨h, _⟩
      cases h
    · rintro r ⟨_, rfl⟩
      simp only [exs_cons, exs_nil, ex_set, ex_sef, ex_unp, ex_par, ex_app, ex_ext, ex_six, ex_exp, ex_ret, ex_retv, ex_iff, ex_rse, ex_frz, ev_var, ev_cst, ev_glb, ev_bin, ev_neg, ev_cmp, ev_chn, ev_bo, ev_nt, ev_ite, ev_tup, ev_lst, ev_ix, ev_slc, ev_call, ev_b2, ev_isi, evs_nil, evs_cons, evr_nil, evr_cons, evB_one, evB_cons, pk, peek, nth, put, bindL_nil, bindL_cons, bindR_nil, bindR_cons, frzL, dat_v, dat_l, Res.dat_v, Res.dat_l, okb, exb, List.map_cons, List.map_nil, toI_int, toB_bool, bin_add, bin_sub, cmp_lt, cmp_le, cmp_gt, cmp_ge, cmp_eqi, cmp_nei, cmp_in, cmp_nin, b1_int, b1_lenl, b1_lent, b1_tupl, b1_tupt, b1_lstt, b1_lstl, ix_t0, ix_t1, isi_tup, isi_int, isi_nb, ev_b1v, ev_b1x, ev_b1c, ev_b1f, ev_b1b, ev_b1n, ev_b1t, ev_b1l, ev_b1s, if_true, if_false, Bool.false_eq_true, Bool.not_true, Bool.not_false, Bool.true_eq_false]
      rfl
  | cons a F =>
    have hlen : (if (((ofI (a :: F)).length : Nat) : Int) < 1 then (((ofI (a :: F)).length : Nat) : Int) else 1) = ((1 : Nat) : Int) := by
      rw [ofI_len, List.length_cons, if_neg (by omega)]
      rfl
    refine fr_bind (enc := .int) (xs := rg 1) (fun xs r => (xs = rg 1 ∧ r = [some (.v (.list (ofI (a :: F)))), some (.v (.int 1)), some (.v (.list [.tuple []])), none, none, none, none]) ∨ (xs = [] ∧ ∃ j3 j4 j5, r = [some (.v (.list (ofI (a :: F)))), some (.v (.int 1)), some (.v (.list ((a :: F).map fun x => .tuple [.int x]))), j3, j4, j5, none])) ?_ (.inl ⟨rfl, rfl⟩) ?_ ?_
    · exact its_rng1 (k := 1) (by omega) (by simp only [exs_cons, exs_nil, ex_set, ex_sef, ex_unp, ex_par, ex_app, ex_ext, ex_six, ex_exp, ex_ret, ex_retv, ex_iff, ex_rse, ex_frz, ev_var, ev_cst, ev_glb, ev_bin, ev_neg, ev_cmp, ev_chn, ev_bo, ev_nt, ev_ite, ev_tup, ev_lst, ev_ix, ev_slc, ev_call, ev_b2, ev_isi, evs_nil, evs_cons, evr_nil, evr_cons, evB_one, evB_cons, pk, peek, nth, put, bindL_nil, bindL_cons, bindR_nil, bindR_cons, frzL, dat_v, dat_l, Res.dat_v, Res.dat_l, okb, exb, List.map_cons, List.map_nil, toI_int, toB_bool, bin_add, bin_sub, cmp_lt, cmp_le, cmp_gt, cmp_ge, cmp_eqi, cmp_nei, cmp_in, cmp_nin, b1_int, b1_lenl, b1_lent, b1_tupl, b1_tupt, b1_lstt, b1_lstl, ix_t0, ix_t1, isi_tup, isi_int, isi_nb, ev_b1v, ev_b1x, ev_b1c, ev_b1f, ev_b1b, ev_b1n, ev_b1t, ev_b1l, ev_b1s, if_true, if_false, Bool.false_eq_true, Bool.not_true, Bool.not_false, Bool.true_eq_false, hlen])
    · rintro x xs r (⟨h, rfl⟩ | ⟨h, _⟩)
      · have hxs : xs = [] := by
          have : rg 1 = [0] := rfl
          rw [this] at h
          injection h
        subst hxs
        refine step_of ⟨_, rfl, ?_⟩
        simp only [exs_cons, exs_nil, ex_set, ex_sef, ex_unp, ex_par, ex_app, ex_ext, ex_six, ex_exp, ex_ret, ex_retv, ex_iff, ex_rse, ex_frz, ev_var, ev_cst, ev_glb, ev_bin, ev_neg, ev_cmp, ev_chn, ev_bo, ev_nt, ev_ite, ev_tup, ev_lst, ev_ix, ev_slc, ev_call, ev_b2, ev_isi, evs_nil, evs_cons, evr_nil, evr_cons, evB_one, evB_cons, pk, peek, nth, put, bindL_nil, bindL_cons, bindR_nil, bindR_cons, frzL, dat_v, dat_l, Res.dat_v, Res.dat_l, okb, exb, List.map_cons, List.map_nil, toI_int, toB_bool, bin_add, bin_sub, cmp_lt, cmp_le, cmp_gt, cmp_ge, cmp_eqi, cmp_nei, cmp_in, cmp_nin, b1_int, b1_lenl, b1_lent, b1_tupl, b1_tupt, b1_lstt, b1_lstl, ix_t0, ix_t1, isi_tup, isi_int, isi_nb, ev_b1v, ev_b1x, ev_b1c, ev_b1f, ev_b1b, ev_b1n, ev_b1t, ev_b1l, ev_b1s, if_true, if_false, Bool.false_eq_true, Bool.not_true, Bool.not_false, Bool.true_eq_false, O.bind_assoc]
        refine fr_yes (enc := id) (xs := [PyData.tuple []]) (fun xs r => (xs = [PyData.tuple []] ∧ r = [some (.v (.list (ofI (a :: F)))), some (.v (.int 1)), some (.v (.list [.tuple []])), some (.v (.int x)), some (.l []), none, none]) ∨ (xs = [] ∧ ∃ j5, r = [some (.v (.list (ofI (a :: F)))), some (.v (.int 1)), some (.v (.list [.tuple []])), some (.v (.int x)), some (.l ((a :: F).map fun x => .tuple [.int x])), j5, none])) ?_ (.inl ⟨rfl, rfl⟩) ?_ ?_
        · rfl
        · rintro y ys r (⟨h, rfl⟩ | ⟨h, _⟩)
          · injection h with h1 h2
            subst h1 h2
            refine ⟨_, rfl, ?_⟩
            have e1 : cmpD .eq (.tuple []) (.tuple []) = .ok true := rfl
            simp only [exs_cons, exs_nil, ex_set, ex_sef, ex_unp, ex_par, ex_app, ex_ext, ex_six, ex_exp, ex_ret, ex_retv, ex_iff, ex_rse, ex_frz, ev_var, ev_cst, ev_glb, ev_bin, ev_neg, ev_cmp, ev_chn, ev_bo, ev_nt, ev_ite, ev_tup, ev_lst, ev_ix, ev_slc, ev_call, ev_b2, ev_isi, evs_nil, evs_cons, evr_nil, evr_cons, evB_one, evB_cons, pk, peek, nth, put, bindL_nil, bindL_cons, bindR_nil, bindR_cons, frzL, dat_v, dat_l, Res.dat_v, Res.dat_l, okb, exb, List.map_cons, List.map_nil, toI_int, toB_bool, bin_add, bin_sub, cmp_lt, cmp_le, cmp_gt, cmp_ge, cmp_eqi, cmp_nei, cmp_in, cmp_nin, b1_int, b1_lenl, b1_lent, b1_tupl, b1_tupt, b1_lstt, b1_lstl, ix_t0, ix_t1, isi_tup, isi_int, isi_nb, ev_b1v, ev_b1x, ev_b1c, ev_b1f, ev_b1b, ev_b1n, ev_b1t, ev_b1l, ev_b1s, if_true, if_false, Bool.false_eq_true, Bool.not_true, Bool.not_false, Bool.true_eq_false, id]
            rw [comp_l (l := a :: F) (c := fun _ => true) (e := fun x => .tuple [.int x]) (by rfl) (fun p hp => by simp only [exs_cons, exs_nil, ex_set, ex_sef, ex_unp, ex_par, ex_app, ex_ext, ex_six, ex_exp, ex_ret, ex_retv, ex_iff, ex_rse, ex_frz, ev_var, ev_cst, ev_glb, ev_bin, ev_neg, ev_cmp, ev_chn, ev_bo, ev_nt, ev_ite, ev_tup, ev_lst, ev_ix, ev_slc, ev_call, ev_b2, ev_isi, evs_nil, evs_cons, evr_nil, evr_cons, evB_one, evB_cons, pk, peek, nth, put, bindL_nil, bindL_cons, bindR_nil, bindR_cons, frzL, dat_v, dat_l, Res.dat_v, Res.dat_l, okb, exb, List.map_cons, List.map_nil, toI_int, toB_bool, bin_add, bin_sub, cmp_lt, cmp_le, cmp_gt, cmp_ge, cmp_eqi, cmp_nei, cmp_in, cmp_nin, b1_int, b1_lenl, b1_lent, b1_tupl, b1_tupt, b1_lstt, b1_lstl, ix_t0, ix_t1, isi_tup, isi_int, isi_nb, ev_b1v, ev_b1x, ev_b1c, ev_b1f, ev_b1b, ev_b1n, ev_b1t, ev_b1l, ev_b1s, if_true, if_false, Bool.false_eq_true, Bool.not_true, Bool.not_false, Bool.true_eq_false, e1]) (fun p hp _ => by simp only [exs_cons, exs_nil, ex_set, ex_sef, ex_unp, ex_par, ex_app, ex_ext, ex_six, ex_exp, ex_ret, ex_retv, ex_iff, ex_rse, ex_frz, ev_var, ev_cst, ev_glb, ev_bin, ev_neg, ev_cmp, ev_chn, ev_bo, ev_nt, ev_ite, ev_tup, ev_lst, ev_ix, ev_slc, ev_call, ev_b2, ev_isi, evs_nil, evs_cons, evr_nil, evr_cons, evB_one, evB_cons, pk, peek, nth, put, bindL_nil, bindL_cons, bindR_nil, bindR_cons, frzL, dat_v, dat_l, Res.dat_v, Res.dat_l, okb, exb, List.map_cons, List.map_nil, toI_int, toB_bool, bin_add, bin_sub, cmp_lt, cmp_le, cmp_gt, cmp_ge, cmp_eqi, cmp_nei, cmp_in, cmp_nin, b1_int, b1_lenl, b1_lent, b1_tupl, b1_tupt, b1_lstt, b1_lstl, ix_t0, ix_t1, isi_tup, isi_int, isi_nb, ev_b1v, ev_b1x, ev_b1c, ev_b1f, ev_b1b, ev_b1n, ev_b1t, ev_b1l, ev_b1s, if_true, if_false, Bool.false_eq_true, Bool.not_true, Bool.not_false, Bool.true_eq_false]; rfl)]
            rw [filt_true]
            have hl : ([] : List PyData).length + (PyData.tuple [.int a] :: F.map fun x => PyData.tuple [.int x]).length ≤ cap := by
              simp only [List.length_nil, List.length_cons, List.length_map] at hF ⊢
              unfold cap
              omega
            simp only [exs_cons, exs_nil, ex_set, ex_sef, ex_unp, ex_par, ex_app, ex_ext, ex_six, ex_exp, ex_ret, ex_retv, ex_iff, ex_rse, ex_frz, ev_var, ev_cst, ev_glb, ev_bin, ev_neg, ev_cmp, ev_chn, ev_bo, ev_nt, ev_ite, ev_tup, ev_lst, ev_ix, ev_slc, ev_call, ev_b2, ev_isi, evs_nil, evs_cons, evr_nil, evr_cons, evB_one, evB_cons, pk, peek, nth, put, bindL_nil, bindL_cons, bindR_nil, bindR_cons, frzL, dat_v, dat_l, Res.dat_v, Res.dat_l, okb, exb, List.map_cons, List.map_nil, toI_int, toB_bool, bin_add, bin_sub, cmp_lt, cmp_le, cmp_gt, cmp_ge, cmp_eqi, cmp_nei, cmp_in, cmp_nin, b1_int, b1_lenl, b1_lent, b1_tupl, b1_tupt, b1_lstt, b1_lstl, ix_t0, ix_t1, isi_tup, isi_int, isi_nb, ev_b1v, ev_b1x, ev_b1c, ev_b1f, ev_b1b, ev_b1n, ev_b1t, ev_b1l, ev_b1s, if_true, if_false, Bool.false_eq_true, Bool.not_true, Bool.not_false, Bool.true_eq_false, hl, List.nil_append]
            exact yes_ok ⟨_, rfl, .inr ⟨trivial, _, rfl⟩⟩
          · cases h
        · rintro r (⟨h, _⟩ | ⟨_, j5, rfl⟩)
          · cases h
          · simp only [exs_cons, exs_nil, ex_set, ex_sef, ex_unp, ex_par, ex_app, ex_ext, ex_six, ex_exp, ex_ret, ex_retv, ex_iff, ex_rse, ex_frz, ev_var, ev_cst, ev_glb, ev_bin, ev_neg, ev_cmp, ev_chn, ev_bo, ev_nt, ev_ite, ev_tup, ev_lst, ev_ix, ev_slc, ev_call, ev_b2, ev_isi, evs_nil, evs_cons, evr_nil, evr_cons, evB_one, evB_cons, pk, peek, nth, put, bindL_nil, bindL_cons, bindR_nil, bindR_cons, frzL, dat_v, dat_l, Res.dat_v, Res.dat_l, okb, exb, List.map_cons, List.map_nil, toI_int, toB_bool, bin_add, bin_sub, cmp_lt, cmp_le, cmp_gt, cmp_ge, cmp_eqi, cmp_nei, cmp_in, cmp_nin, b1_int, b1_lenl, b1_lent, b1_tupl, b1_tupt, b1_lstt, b1_lstl, ix_t0, ix_t1, isi_tup, isi_int, isi_nb, ev_b1v, ev_b1x, ev_b1c, ev_b1f, ev_b1b, ev_b1n, ev_b1t, ev_b1l, ev_b1s, if_true, if_false, Bool.false_eq_true, Bool.not_true, Bool.not_false, Bool.true_eq_false]
            exact yes_ok ⟨_, rfl, .inr ⟨trivial, _, _, _, rfl⟩⟩
      · cases h
    · rintro r (⟨h, _⟩ | ⟨_, j3, j4, j5, rfl⟩)
      · have : rg 1 = [0] := rfl
        rw [this] at h
        cases h
      · simp only [exs_cons, exs_nil, ex_set, ex_sef, ex_unp, ex_par, ex_app, ex_ext, ex_six, ex_exp, ex_ret, ex_retv, ex_iff, ex_rse, ex_frz, ev_var, ev_cst, ev_glb, ev_bin, ev_neg, ev_cmp, ev_chn, ev_bo, ev_nt, ev_ite, ev_tup, ev_lst, ev_ix, ev_slc, ev_call, ev_b2, ev_isi, evs_nil, evs_cons, evr_nil, evr_cons, evB_one, evB_cons, pk, peek, nth, put, bindL_nil, bindL_cons, bindR_nil, bindR_cons, frzL, dat_v, dat_l, Res.dat_v, Res.dat_l, okb, exb, List.map_cons, List.map_nil, toI_int, toB_bool, bin_add, bin_sub, cmp_lt, cmp_le, cmp_gt, cmp_ge, cmp_eqi, cmp_nei, cmp_in, cmp_nin, b1_int, b1_lenl, b1_lent, b1_tupl, b1_tupt, b1_lstt, b1_lstl, ix_t0, ix_t1, isi_tup, isi_int, isi_nb, ev_b1v, ev_b1x, ev_b1c, ev_b1f, ev_b1b, ev_b1n, ev_b1t, ev_b1l, ev_b1s, if_true, if_false, Bool.false_eq_true, Bool.not_true, Bool.not_false, Bool.true_eq_false]
        rw [ch1, if_neg (by simp), List.map_map]
        rfl
theorem saved_too_ok (h48 : nthF T 48 = some u_saved_too) (hn : n ≤ 7) {l : List Int} {S' : Int → Bool} (hl : l.length ≤ 100) (hs : isort ltI (st n S ++ l) = st n S') (m : Nat) : cal T G (m + 1) 48 [.v (sd n B S), .v (.tuple (ofI l))] = .ok (.v (sd n B S')) := by
  rw [cal_eq h48 rfl]
  show (exs (cal T G m) G 1000 u_saved_too.body [some (.v (sd n B S)), some (.v (.tuple (ofI l)))]).bind _ = _
  have h1 : (ofI (st n S)).length + (ofI l).length ≤ 1000 := by
    have := st_len n S
    rw [ofI_len, ofI_len]
    omega
  unfold u_saved_too
  dsimp only
  simp only [exs_cons, exs_nil, ex_set, ex_sef, ex_unp, ex_par, ex_app, ex_ext, ex_six, ex_exp, ex_ret, ex_retv, ex_iff, ex_rse, ex_frz, ev_var, ev_cst, ev_glb, ev_bin, ev_neg, ev_cmp, ev_chn, ev_bo, ev_nt, ev_ite, ev_tup, ev_lst, ev_ix, ev_slc, ev_call, ev_b2, ev_isi, evs_nil, evs_cons, evr_nil, evr_cons, evB_one, evB_cons, pk, peek, nth, put, bindL_nil, bindL_cons, bindR_nil, bindR_cons, frzL, dat_v, dat_l, Res.dat_v, Res.dat_l, okb, exb, List.map_cons, List.map_nil, toI_int, toB_bool, bin_add, bin_sub, cmp_lt, cmp_le, cmp_gt, cmp_ge, cmp_eqi, cmp_nei, cmp_in, cmp_nin, b1_int, b1_lenl, b1_lent, b1_tupl, b1_tupt, b1_lstt, b1_lstl, ix_t0, ix_t1, isi_tup, isi_int, isi_nb, ev_b1v, ev_b1x, ev_b1c, ev_b1f, ev_b1b, ev_b1n, ev_b1t, ev_b1l, ev_b1s, if_true, if_false, Bool.false_eq_true, Bool.not_true, Bool.not_false, Bool.true_eq_false, ix_sd0, ix_sd1, bin_addl h1, ofI_app, b1_sortI, hs]
  rfl
theorem look_many_ok (t : Looks T G) (h51 : nthF T 51 = some u_look_many) {k : Int} (h0 : 0 ≤ k) (h3 : k ≤ 3) (m : Nat) : cal T G (m + 2) 51 [.v (.int k)] = .ok (.v .none) := by
  rw [cal_eq h51 rfl]
  show (exs (cal T G (m + 1)) G 1000 u_look_many.body [some (.v (.int k))]).bind _ = _
  unfold u_look_many
  dsimp only
  simp only [exs_cons, exs_nil, ex_set, ex_sef, ex_unp, ex_par, ex_app, ex_ext, ex_six, ex_exp, ex_ret, ex_retv, ex_iff, ex_rse, ex_frz, ev_var, ev_cst, ev_glb, ev_bin, ev_neg, ev_cmp, ev_chn, ev_bo, ev_nt, ev_ite, ev_tup, ev_lst, ev_ix, ev_slc, ev_call, ev_b2, ev_isi, evs_nil, evs_cons, evr_nil, evr_cons, evB_one, evB_cons, pk, peek, nth, put, bindL_nil, bindL_cons, bindR_nil, bindR_cons, frzL, dat_v, dat_l, Res.dat_v, Res.dat_l, okb, exb, List.map_cons, List.map_nil, toI_int, toB_bool, bin_add, bin_sub, cmp_lt, cmp_le, cmp_gt, cmp_ge, cmp_eqi, cmp_nei, cmp_in, cmp_nin, b1_int, b1_lenl, b1_lent, b1_tupl, b1_tupt, b1_lstt, b1_lstl, ix_t0, ix_t1, isi_tup, isi_int, isi_nb, ev_b1v, ev_b1x, ev_b1c, ev_b1f, ev_b1b, ev_b1n, ev_b1t, ev_b1l, ev_b1s, if_true, if_false, Bool.false_eq_true, Bool.not_true, Bool.not_false, Bool.true_eq_false, whole_in t m h0 h3]
structure Saves (T : List Fn) (G : List PyData) : Prop extends Times T G where
  f47 : nthF T 47 = some u_left_alone
  f48 : nthF T 48 = some u_saved_too
  f51 : nthF T 51 = some u_look_many
  f79 : nthF T 79 = some u_choices
  f80 : nthF T 80 = some u_free_places
theorem frp_mem {x : Int} : x ∈ frp n es S B ↔ In n x ∧ bt n es S B 7 x = true ∧ B x = false := by
  unfold frp
  rw [mem_st, Bool.and_eq_true, Bool.not_eq_true']
theorem frp_saved (dj : ∀ p, In n p → B p = true → S p = false) {x : Int} (h : x ∈ frp n es S B) : S x = false := by
  obtain ⟨hx, h1, h2⟩ := frp_mem.mp h
  cases q : S x with
  | false => rfl
  | true =>
    rw [bt_saved (fun p hp hS => by
      cases z : B p with
      | false => rfl
      | true => rw [dj p hp z] at hS; cases hS) 7 x hx q] at h1
    cases h1
theorem best_saved1_ok (t : Saves T G) (h82 : nthF T 82 = some u_best_saved) (w : WF n es) (dj : ∀ p, In n p → B p = true → S p = false) (m : Nat) : ∃ l : List Int, (∀ x ∈ l, x ∈ frp n es S B) ∧ cal T G (m + 7) 82 [.v (wb n es), .v (sd n B S), .v (.int 1)] = .ok (.v (.tuple (ofI l))) := by
  have main : Yes (cal T G (m + 7) 82 [.v (wb n es), .v (sd n B S), .v (.int 1)]) fun x => ∃ l : List Int, (∀ x ∈ l, x ∈ frp n es S B) ∧ x = .v (.tuple (ofI l)) := by
    rw [cal_eq h82 rfl]
    show Yes ((exs (cal T G (m + 6)) G 1000 u_best_saved.body [some (.v (wb n es)), some (.v (sd n B S)), some (.v (.int 1)), none, none, none]).bind _) _
    have hhi := w.hi
    have c80 := free_places_ok (B := B) (S := S) t.toStands t.f47 t.f80 w (m + 1)
    have c79 := choices1_ok (G := G) (F := frp n es S B) t.f79 (by have := st_len n fun p => bt n es S B 7 p && !B p; unfold frp; omega) (m + 5)
    have c51 := look_many_ok t.toLooks t.f51 (k := 1) (by omega) (by omega) (m + 4)
    unfold u_best_saved
    dsimp only
    simp only [exs_cons, exs_nil, ex_set, ex_sef, ex_unp, ex_par, ex_app, ex_ext, ex_six, ex_exp, ex_ret, ex_retv, ex_iff, ex_rse, ex_frz, ev_var, ev_cst, ev_glb, ev_bin, ev_neg, ev_cmp, ev_chn, ev_bo, ev_nt, ev_ite, ev_tup, ev_lst, ev_ix, ev_slc, ev_call, ev_b2, ev_isi, evs_nil, evs_cons, evr_nil, evr_cons, evB_one, evB_cons, pk, peek, nth, put, bindL_nil, bindL_cons, bindR_nil, bindR_cons, frzL, dat_v, dat_l, Res.dat_v, Res.dat_l, okb, exb, List.map_cons, List.map_nil, toI_int, toB_bool, bin_add, bin_sub, cmp_lt, cmp_le, cmp_gt, cmp_ge, cmp_eqi, cmp_nei, cmp_in, cmp_nin, b1_int, b1_lenl, b1_lent, b1_tupl, b1_tupt, b1_lstt, b1_lstl, ix_t0, ix_t1, isi_tup, isi_int, isi_nb, ev_b1v, ev_b1x, ev_b1c, ev_b1f, ev_b1b, ev_b1n, ev_b1t, ev_b1l, ev_b1s, if_true, if_false, Bool.false_eq_true, Bool.not_true, Bool.not_false, Bool.true_eq_false, look_stand_ok t.toStands w dj m, c51, O.bind_assoc]
    have hmem : ∀ l ∈ ch1 (frp n es S B), (l = [] ∨ ∃ x, l = [x] ∧ x ∈ frp n es S B) := fun l hl => by
      unfold ch1 at hl
      split at hl
      · exact .inl (List.mem_singleton.mp hl)
      · obtain ⟨x, hx, rfl⟩ := List.mem_map.mp hl
        exact .inr ⟨x, rfl, hx⟩
    have hcne : ch1 (frp n es S B) ≠ [] := by
      unfold ch1
      split
      · simp
      · rename_i h
        simpa using h
    refine fr_yes (enc := fun l => .tuple (ofI l)) (xs := ch1 (frp n es S B)) (fun xs r => (∀ l ∈ xs, (l = [] ∨ ∃ x, l = [x] ∧ x ∈ frp n es S B)) ∧ ∃ (b : PyData) (j4 j5 : Option Res), ((b = .none ∧ xs ≠ []) ∨ ∃ (h : Int) (l : List Int), b = .tuple [.int h, .tuple (ofI l)] ∧ ∀ x ∈ l, x ∈ frp n es S B) ∧
      r = [some (.v (wb n es)), some (.v (sd n B S)), some (.v (.int 1)), some (.v b), j4, j5]) ?_ ⟨hmem, .none, none, none, .inl ⟨rfl, hcne⟩, rfl⟩ ?_ ?_
    · rw [its_call]
      simp only [exs_cons, exs_nil, ex_set, ex_sef, ex_unp, ex_par, ex_app, ex_ext, ex_six, ex_exp, ex_ret, ex_retv, ex_iff, ex_rse, ex_frz, ev_var, ev_cst, ev_glb, ev_bin, ev_neg, ev_cmp, ev_chn, ev_bo, ev_nt, ev_ite, ev_tup, ev_lst, ev_ix, ev_slc, ev_call, ev_b2, ev_isi, evs_nil, evs_cons, evr_nil, evr_cons, evB_one, evB_cons, pk, peek, nth, put, bindL_nil, bindL_cons, bindR_nil, bindR_cons, frzL, dat_v, dat_l, Res.dat_v, Res.dat_l, okb, exb, List.map_cons, List.map_nil, toI_int, toB_bool, bin_add, bin_sub, cmp_lt, cmp_le, cmp_gt, cmp_ge, cmp_eqi, cmp_nei, cmp_in, cmp_nin, b1_int, b1_lenl, b1_lent, b1_tupl, b1_tupt, b1_lstt, b1_lstl, ix_t0, ix_t1, isi_tup, isi_int, isi_nb, ev_b1v, ev_b1x, ev_b1c, ev_b1f, ev_b1b, ev_b1n, ev_b1t, ev_b1l, ev_b1s, if_true, if_false, Bool.false_eq_true, Bool.not_true, Bool.not_false, Bool.true_eq_false, c80, c79]
      rfl
    · rintro l xs r ⟨hm, b, j4, j5, hb, rfl⟩
      refine ⟨_, rfl, ?_⟩
      have hl := hm l (by simp)
      have hm' : ∀ l ∈ xs, (l = [] ∨ ∃ x, l = [x] ∧ x ∈ frp n es S B) := fun z hz => hm z (List.mem_cons_of_mem _ hz)
      have hlm : ∀ x ∈ l, x ∈ frp n es S B := by
        rcases hl with rfl | ⟨x, rfl, hx⟩
        · simp
        · intro y hy
          rw [List.mem_singleton.mp hy]
          exact hx
      have hS' : ∃ S', isort ltI (st n S ++ l) = st n S' := by
        rcases hl with rfl | ⟨x, rfl, hx⟩
        · exact ⟨S, by rw [List.append_nil]; exact isort_sorted_id (st_sorted n S)⟩
        · exact ⟨or1 S x, sort_or1 (frp_mem.mp hx).1 (frp_saved dj hx)⟩
      obtain ⟨S', hS'⟩ := hS'
      have hll : l.length ≤ 100 := by
        rcases hl with rfl | ⟨x, rfl, hx⟩ <;> simp
      have c48 := saved_too_ok (G := G) (B := B) (S := S) t.f48 hhi hll hS' (m + 5)
      have c47 := left_alone_ok (B := B) (S := S') t.toStands t.f47 w (m + 2)
      simp only [exs_cons, exs_nil, ex_set, ex_sef, ex_unp, ex_par, ex_app, ex_ext, ex_six, ex_exp, ex_ret, ex_retv, ex_iff, ex_rse, ex_frz, ev_var, ev_cst, ev_glb, ev_bin, ev_neg, ev_cmp, ev_chn, ev_bo, ev_nt, ev_ite, ev_tup, ev_lst, ev_ix, ev_slc, ev_call, ev_b2, ev_isi, evs_nil, evs_cons, evr_nil, evr_cons, evB_one, evB_cons, pk, peek, nth, put, bindL_nil, bindL_cons, bindR_nil, bindR_cons, frzL, dat_v, dat_l, Res.dat_v, Res.dat_l, okb, exb, List.map_cons, List.map_nil, toI_int, toB_bool, bin_add, bin_sub, cmp_lt, cmp_le, cmp_gt, cmp_ge, cmp_eqi, cmp_nei, cmp_in, cmp_nin, b1_int, b1_lenl, b1_lent, b1_tupl, b1_tupt, b1_lstt, b1_lstl, ix_t0, ix_t1, isi_tup, isi_int, isi_nb, ev_b1v, ev_b1x, ev_b1c, ev_b1f, ev_b1b, ev_b1n, ev_b1t, ev_b1l, ev_b1s, if_true, if_false, Bool.false_eq_true, Bool.not_true, Bool.not_false, Bool.true_eq_false, c48, c47, ix_sd0, ix_wb0]
      generalize ((n : Int) - (((ofI (st n (bt n es S' B 7))).length : Nat) : Int)) = hh
      rcases hb with ⟨rfl, _⟩ | ⟨h, l0, rfl, hl0⟩
      · simp only [exs_cons, exs_nil, ex_set, ex_sef, ex_unp, ex_par, ex_app, ex_ext, ex_six, ex_exp, ex_ret, ex_retv, ex_iff, ex_rse, ex_frz, ev_var, ev_cst, ev_glb, ev_bin, ev_neg, ev_cmp, ev_chn, ev_bo, ev_nt, ev_ite, ev_tup, ev_lst, ev_ix, ev_slc, ev_call, ev_b2, ev_isi, evs_nil, evs_cons, evr_nil, evr_cons, evB_one, evB_cons, pk, peek, nth, put, bindL_nil, bindL_cons, bindR_nil, bindR_cons, frzL, dat_v, dat_l, Res.dat_v, Res.dat_l, okb, exb, List.map_cons, List.map_nil, toI_int, toB_bool, bin_add, bin_sub, cmp_lt, cmp_le, cmp_gt, cmp_ge, cmp_eqi, cmp_nei, cmp_in, cmp_nin, b1_int, b1_lenl, b1_lent, b1_tupl, b1_tupt, b1_lstt, b1_lstl, ix_t0, ix_t1, isi_tup, isi_int, isi_nb, ev_b1v, ev_b1x, ev_b1c, ev_b1f, ev_b1b, ev_b1n, ev_b1t, ev_b1l, ev_b1s, if_true, if_false, Bool.false_eq_true, Bool.not_true, Bool.not_false, Bool.true_eq_false, cmp_is, isNoneD]
        exact yes_ok ⟨_, rfl, hm', _, _, _, .inr ⟨_, _, rfl, hlm⟩, rfl⟩
      · simp only [exs_cons, exs_nil, ex_set, ex_sef, ex_unp, ex_par, ex_app, ex_ext, ex_six, ex_exp, ex_ret, ex_retv, ex_iff, ex_rse, ex_frz, ev_var, ev_cst, ev_glb, ev_bin, ev_neg, ev_cmp, ev_chn, ev_bo, ev_nt, ev_ite, ev_tup, ev_lst, ev_ix, ev_slc, ev_call, ev_b2, ev_isi, evs_nil, evs_cons, evr_nil, evr_cons, evB_one, evB_cons, pk, peek, nth, put, bindL_nil, bindL_cons, bindR_nil, bindR_cons, frzL, dat_v, dat_l, Res.dat_v, Res.dat_l, okb, exb, List.map_cons, List.map_nil, toI_int, toB_bool, bin_add, bin_sub, cmp_lt, cmp_le, cmp_gt, cmp_ge, cmp_eqi, cmp_nei, cmp_in, cmp_nin, b1_int, b1_lenl, b1_lent, b1_tupl, b1_tupt, b1_lstt, b1_lstl, ix_t0, ix_t1, isi_tup, isi_int, isi_nb, ev_b1v, ev_b1x, ev_b1c, ev_b1f, ev_b1b, ev_b1n, ev_b1t, ev_b1l, ev_b1s, if_true, if_false, Bool.false_eq_true, Bool.not_true, Bool.not_false, Bool.true_eq_false, cmp_is, isNoneD]
        cases decide (h < hh) with
        | true => exact yes_ok ⟨_, rfl, hm', _, _, _, .inr ⟨_, _, rfl, hlm⟩, rfl⟩
        | false => exact yes_ok ⟨_, rfl, hm', _, _, _, .inr ⟨_, _, rfl, hl0⟩, rfl⟩
    · rintro r ⟨_, b, j4, j5, hb, rfl⟩
      rcases hb with ⟨_, h⟩ | ⟨h, l, rfl, hl⟩
      · exact absurd rfl h
      · simp only [exs_cons, exs_nil, ex_set, ex_sef, ex_unp, ex_par, ex_app, ex_ext, ex_six, ex_exp, ex_ret, ex_retv, ex_iff, ex_rse, ex_frz, ev_var, ev_cst, ev_glb, ev_bin, ev_neg, ev_cmp, ev_chn, ev_bo, ev_nt, ev_ite, ev_tup, ev_lst, ev_ix, ev_slc, ev_call, ev_b2, ev_isi, evs_nil, evs_cons, evr_nil, evr_cons, evB_one, evB_cons, pk, peek, nth, put, bindL_nil, bindL_cons, bindR_nil, bindR_cons, frzL, dat_v, dat_l, Res.dat_v, Res.dat_l, okb, exb, List.map_cons, List.map_nil, toI_int, toB_bool, bin_add, bin_sub, cmp_lt, cmp_le, cmp_gt, cmp_ge, cmp_eqi, cmp_nei, cmp_in, cmp_nin, b1_int, b1_lenl, b1_lent, b1_tupl, b1_tupt, b1_lstt, b1_lstl, ix_t0, ix_t1, isi_tup, isi_int, isi_nb, ev_b1v, ev_b1x, ev_b1c, ev_b1f, ev_b1b, ev_b1n, ev_b1t, ev_b1l, ev_b1s, if_true, if_false, Bool.false_eq_true, Bool.not_true, Bool.not_false, Bool.true_eq_false]
        exact yes_ok ⟨l, hl, rfl⟩
  obtain ⟨x, e, l, hl, rfl⟩ := main
  exact ⟨l, hl, e⟩
end
end HF

set_option Elab.async false
set_option linter.all false
set_option maxRecDepth 100000
set_option maxHeartbeats 4000000
/-! ### GJ: law k46 -/
namespace HF
open PySem
theorem filt_false {α : Type} (l : List α) : l.filter (fun _ => false) = [] := List.filter_eq_nil_iff.mpr fun _ _ h => by cases h
theorem cmp_eq_nilt (l : List Int) : cmpD .eq (.tuple (ofI l)) (.tuple []) = .ok l.isEmpty := by
  rw [cmp_eq_pl (a := .tuple (ofI l)) (b := .tuple []) (k := 1) (pl_ofI l 0) rfl (by omega)]
  cases l <;> rfl
theorem cmp_eq_nilL {k : Nat} {l : List PyData} (h : plA k l = true) (hk : k < 64) : cmpD .eq (.list l) (.list []) = .ok l.isEmpty := by
  rw [cmp_eq_pl (a := .list l) (b := .list []) (k := k + 1) h rfl (by omega)]
  cases l <;> rfl
theorem netd (a : Option Nat) : cmpD .ne (td a) (td a) = .ok false := cmp_ne_same (pl_td a 0) (by omega)
theorem nilnil : cmpD .ne (.list []) (.list []) = .ok false := cmp_ne_nil []
section
variable {n : Nat} {es : List (Int × Int)} {B S P : Int → Bool}
def an (B P : Int → Bool) : Int → Bool := fun p => B p && P p
theorem bt_out (hP : ∀ x y, In n x → In n y → P x = true → adj es x y = true → P y = true) : ∀ (k : Nat) (p : Int), In n p → P p = false → bt n es (an S P) (an B P) k p = false
  | 0, p, _, h => by
    show (B p && P p) = false
    rw [h, Bool.and_false]
  | k + 1, p, hp, h => by
    cases q : bt n es (an S P) (an B P) (k + 1) p with
    | false => rfl
    | true =>
      rcases nx_iff.mp q with z | ⟨_, z⟩
      · rw [bt_out hP k p hp h] at z
        cases z
      · obtain ⟨x, hx, ha, hb⟩ := nb_iff.mp z
        cases hPx : P x with
        | true => rw [hP x p hx hp hPx (by rw [adj_symm]; exact ha)] at h; cases h
        | false => rw [bt_out hP k x hx hPx] at hb; cases hb
theorem bt_in (hP : ∀ x y, In n x → In n y → P x = true → adj es x y = true → P y = true) : ∀ (k : Nat) (p : Int), In n p → P p = true → bt n es (an S P) (an B P) k p = bt n es S B k p
  | 0, p, _, h => by
    show (B p && P p) = B p
    rw [h, Bool.and_true]
  | k + 1, p, hp, h => by
    have ih := bt_in hP k
    refine bool_ext (fun q => ?_) fun q => ?_
    · rcases nx_iff.mp q with z | ⟨z1, z⟩
      · exact nx_iff.mpr (.inl (by rw [← ih p hp h]; exact z))
      · obtain ⟨x, hx, ha, hb⟩ := nb_iff.mp z
        refine nx_iff.mpr (.inr ⟨?_, nb_iff.mpr ⟨x, hx, ha, ?_⟩⟩)
        · have : (S p && P p) = false := z1
          rw [h, Bool.and_true] at this
          exact this
        · rw [← ih x hx (hP p x hp hx h ha)]
          exact hb
    · rcases nx_iff.mp q with z | ⟨z1, z⟩
      · exact nx_iff.mpr (.inl (by rw [ih p hp h]; exact z))
      · obtain ⟨x, hx, ha, hb⟩ := nb_iff.mp z
        refine nx_iff.mpr (.inr ⟨?_, nb_iff.mpr ⟨x, hx, ha, ?_⟩⟩)
        · show (S p && P p) = false
          rw [z1]
          rfl
        · rw [ih x hx (hP p x hp hx h ha)]
          exact hb
theorem ft_in (hP : ∀ x y, In n x → In n y → P x = true → adj es x y = true → P y = true) {p : Int} (hp : In n p) (h : P p = true) : ft n es (an S P) (an B P) p = ft n es S B p := by
  unfold ft
  rw [show (fun k => bt n es (an S P) (an B P) k p) = fun k => bt n es S B k p from funext fun k => bt_in hP k p hp h]
theorem ft_out (hP : ∀ x y, In n x → In n y → P x = true → adj es x y = true → P y = true) {p : Int} (hp : In n p) (h : P p = false) : ft n es (an S P) (an B P) p = none := ft_none.mpr fun k _ => bt_out hP k p hp h
theorem bt_nil (hB : ∀ p, In n p → B p = false) : ∀ (k : Nat) (p : Int), In n p → bt n es S B k p = false
  | 0, p, hp => hB p hp
  | k + 1, p, hp => by
    cases q : bt n es S B (k + 1) p with
    | false => rfl
    | true =>
      rcases nx_iff.mp q with z | ⟨_, z⟩
      · rw [bt_nil hB k p hp] at z; cases z
      · obtain ⟨x, hx, ha, hb⟩ := nb_iff.mp z
        rw [bt_nil hB k x hx] at hb
        cases hb
theorem filt_an : (st n B).filter P = st n (an B P) := by
  unfold st an
  rw [List.filter_filter]
  exact List.filter_congr fun x _ => Bool.and_comm _ _
theorem rc_cl (hn : n ≤ 7) (q : Int) : ∀ x y, In n x → In n y → rc n es none1 q x = true → adj es x y = true → rc n es none1 q y = true := fun x y hx hy h ha => rc_step hn hx hy h ha rfl
/-- from where fire comes, it comes without anything saved -/
theorem bt_rc (hn : n ≤ 7) {b p : Int} {k : Nat} (hp : In n p) (h : bt n es S (fun q => decide (q = b)) k p = true) : rc n es none1 b p = true :=
  rc_of hn hp (bt_le (fun _ _ h => h) (fun _ _ h => by cases h) (fun _ _ h => h) k p hp h)
end
def law46 : Fn := { pars := 1, slots := 12, body := (.cons (.sef 1 (.call 68 (.cons (.var 0) (.cons (.cst (.int 10)) .nil))))
   (.cons (.sef 2 (.call 11 (.cons (.var 0) (.cons (.cst (.int 200)) (.cons (.var 1) .nil)))))
   (.cons (.sef 3 (.call 73 (.cons (.var 1) (.cons (.var 2) .nil))))
   (.cons (.fr [4] (.call 64 (.cons (.var 1) .nil)) (.cons (.sef 7 (.b1 .tuple (.comp (.var 6) [6] (.ix (.var 2) (.cst (.int 0))) (.cmp .inn (.var 6) (.var 4)))))
   (.cons (.sef 8 (.b1 .tuple (.comp (.var 6) [6] (.ix (.var 2) (.cst (.int 1))) (.cmp .inn (.var 6) (.var 4)))))
   (.cons (.sef 9 (.call 73 (.cons (.var 1) (.cons (.tup (.cons (.var 7) (.cons (.var 8) .nil))) .nil))))
   (.cons (.iff (.cmp .ne (.comp (.var 6) [6] (.var 4) (.cmp .ne (.ix (.var 9) (.var 6)) (.ix (.var 3) (.var 6)))) (.lst .nil)) (.cons (.ret (.cst (.bool false)))
   .nil) .nil)
   (.cons (.iff (.cmp .ne (.comp (.var 6) [6] (.rng1 (.ix (.var 1) (.cst (.int 0)))) (.bo true (.cons (.cmp .nin (.var 6) (.var 4)) (.cons (.cmp .isn (.ix (.var 9) (.var 6)) (.cst .none)) .nil)))) (.lst .nil)) (.cons (.ret (.cst (.bool false)))
   .nil) .nil)
   (.cons (.sef 10 (.call 76 (.cons (.var 1) (.cons (.var 2) .nil))))
   (.cons (.iff (.bo true (.cons (.cmp .eq (.var 7) (.tup .nil)) (.cons (.cmp .ne (.comp (.var 6) [6] (.var 4) (.cmp .nin (.var 6) (.var 10))) (.lst .nil)) .nil))) (.cons (.ret (.cst (.bool false)))
   .nil) .nil)
   (.cons (.fr [6] (.var 4) (.cons (.iff (.cmp .ne (.comp (.var 11) [11] (.call 77 (.cons (.var 1) (.cons (.var 2) (.cons (.var 6) .nil)))) (.cmp .nin (.var 11) (.var 7))) (.lst .nil)) (.cons (.ret (.cst (.bool false)))
   .nil) .nil)
   .nil))
   .nil)))))))))
   (.cons (.sef 5 (.comp (.var 4) [4] (.call 64 (.cons (.var 1) .nil)) (.cmp .ne (.comp (.var 6) [6] (.var 4) (.cmp .inn (.var 6) (.ix (.var 2) (.cst (.int 0))))) (.lst .nil))))
   (.cons (.fr [6] (.call 82 (.cons (.var 1) (.cons (.var 2) (.cons (.cst (.int 1)) .nil)))) (.cons (.iff (.cmp .eq (.comp (.var 4) [4] (.var 5) (.cmp .inn (.var 6) (.var 4))) (.lst .nil)) (.cons (.ret (.cst (.bool false)))
   .nil) .nil)
   .nil))
   (.cons (.ret (.cst (.bool true)))
   .nil))))))) }
theorem main46 {T : List Fn} {G : List PyData} (t : Saves T G) (tp : Picks T) (tq : Parts T G) (h9 : nthF T 9 = some u__law_web) (h68 : nthF T 68 = some u__law_loose) (h11 : nthF T 11 = some u__law_stand) (h23 : nthF T 23 = some u_look_place)
    (h76 : nthF T 76 = some u_safe_places) (h77 : nthF T 77 = some u_sources) (h82 : nthF T 82 = some u_best_saved) (hl : nthF T 127 = some law46) (ns : List Int) : cal T G 20 127 [.v (scr ns)] = .ok (.v (.bool true)) := by
  rw [cal_eq (n := 19) hl rfl]
  show (exs (cal T G 19) G 1000 law46.body [some (.v (scr ns)), none, none, none, none, none, none, none, none, none, none, none]).bind _ = _
  obtain ⟨n, es, w, hw⟩ := law_loose_ok (G := G) tp h9 h68 15 ns (k := 10) (by omega)
  obtain ⟨B, S, sf, hs⟩ := law_stand_ok (G := G) tp h11 w 16 ns (k := 200) (by omega)
  have hw' : cal T G 19 68 [.v (scr ns), .v (.int 10)] = .ok (.v (wb n es)) := hw
  have hs' : cal T G 19 11 [.v (scr ns), .v (.int 200), .v (wb n es)] = .ok (.v (sd n B S)) := hs
  have hlo := w.lo
  have hhi := w.hi
  have hbt : ∀ (B S : Int → Bool), (∀ p, In n p → B p = true → S p = false) → cal T G 19 73 [.v (wb n es), .v (.tuple [.tuple (ofI (st n B)), .tuple (ofI (st n S))])] = .ok (.l (tl n es S B)) := fun B S dj => burn_times_ok t.toTimes w dj 12
  have hbs : cal T G 19 73 [.v (wb n es), .v (sd n B S)] = .ok (.l (tl n es S B)) := hbt B S sf.dj
  have c64 : cal T G 19 64 [.v (wb n es)] = .ok (.l (prts n es none1)) := parts_ok tq w 14
  have c76 : cal T G 19 76 [.v (wb n es), .v (sd n B S)] = .ok (.l (ofI (st n fun p => (ft n es S B p).isNone))) := safe_places_ok t.toTimes h76 w sf.dj 11
  have c77 : ∀ x, In n x → cal T G 19 77 [.v (wb n es), .v (sd n B S), .v (.int x)] = .ok (.l (ofI (srcs n es S B x))) := fun x hx => sources_ok t.toTimes h23 h77 w sf.dj hx 12
  obtain ⟨bl, hbl, c82'⟩ := best_saved1_ok t h82 w sf.dj 12
  have c82 : cal T G 19 82 [.v (wb n es), .v (sd n B S), .v (.int 1)] = .ok (.v (.tuple (ofI bl))) := c82'
  unfold law46
  dsimp only
  simp only [exs_cons, exs_nil, ex_set, ex_sef, ex_unp, ex_par, ex_app, ex_ext, ex_six, ex_exp, ex_ret, ex_retv, ex_iff, ex_rse, ex_frz, ev_var, ev_cst, ev_glb, ev_bin, ev_neg, ev_cmp, ev_chn, ev_bo, ev_nt, ev_ite, ev_tup, ev_lst, ev_ix, ev_slc, ev_call, ev_b2, ev_isi, evs_nil, evs_cons, evr_nil, evr_cons, evB_one, evB_cons, pk, peek, nth, put, bindL_nil, bindL_cons, bindR_nil, bindR_cons, frzL, dat_v, dat_l, Res.dat_v, Res.dat_l, okb, exb, List.map_cons, List.map_nil, toI_int, toB_bool, bin_add, bin_sub, cmp_lt, cmp_le, cmp_gt, cmp_ge, cmp_eqi, cmp_nei, cmp_in, cmp_nin, b1_int, b1_lenl, b1_lent, b1_tupl, b1_tupt, b1_lstt, b1_lstl, ix_t0, ix_t1, isi_tup, isi_int, isi_nb, ev_b1v, ev_b1x, ev_b1c, ev_b1f, ev_b1b, ev_b1n, ev_b1t, ev_b1l, ev_b1s, if_true, if_false, Bool.false_eq_true, Bool.not_true, Bool.not_false, Bool.true_eq_false, hw', hs', hbs, O.bind_assoc]
  refine Yes.eq (fr_yes (enc := fun q => .list (ofI (st n (rc n es none1 q)))) (xs := st n (lead n es none1)) (fun xs r => ∃ j4 j6 j7 j8 j9 j10 : Option Res, r = [some (.v (scr ns)), some (.v (wb n es)), some (.v (sd n B S)), some (.v (.list (tl n es S B))), j4, none, j6, j7, j8, j9, j10, none]) ?_ ⟨_, _, _, _, _, _, rfl⟩ ?_ ?_)
  · rw [its_call]
    simp only [exs_cons, exs_nil, ex_set, ex_sef, ex_unp, ex_par, ex_app, ex_ext, ex_six, ex_exp, ex_ret, ex_retv, ex_iff, ex_rse, ex_frz, ev_var, ev_cst, ev_glb, ev_bin, ev_neg, ev_cmp, ev_chn, ev_bo, ev_nt, ev_ite, ev_tup, ev_lst, ev_ix, ev_slc, ev_call, ev_b2, ev_isi, evs_nil, evs_cons, evr_nil, evr_cons, evB_one, evB_cons, pk, peek, nth, put, bindL_nil, bindL_cons, bindR_nil, bindR_cons, frzL, dat_v, dat_l, Res.dat_v, Res.dat_l, okb, exb, List.map_cons, List.map_nil, toI_int, toB_bool, bin_add, bin_sub, cmp_lt, cmp_le, cmp_gt, cmp_ge, cmp_eqi, cmp_nei, cmp_in, cmp_nin, b1_int, b1_lenl, b1_lent, b1_tupl, b1_tupt, b1_lstt, b1_lstl, ix_t0, ix_t1, isi_tup, isi_int, isi_nb, ev_b1v, ev_b1x, ev_b1c, ev_b1f, ev_b1b, ev_b1n, ev_b1t, ev_b1l, ev_b1s, if_true, if_false, Bool.false_eq_true, Bool.not_true, Bool.not_false, Bool.true_eq_false, c64]
    rfl
  · rintro q xs r ⟨j4, j6, j7, j8, j9, j10, rfl⟩
    have hP := rc_cl (es := es) hhi q
    generalize hPd : rc n es none1 q = P at hP
    refine ⟨_, rfl, ?_⟩
    simp only [exs_cons, exs_nil, ex_set, ex_sef, ex_unp, ex_par, ex_app, ex_ext, ex_six, ex_exp, ex_ret, ex_retv, ex_iff, ex_rse, ex_frz, ev_var, ev_cst, ev_glb, ev_bin, ev_neg, ev_cmp, ev_chn, ev_bo, ev_nt, ev_ite, ev_tup, ev_lst, ev_ix, ev_slc, ev_call, ev_b2, ev_isi, evs_nil, evs_cons, evr_nil, evr_cons, evB_one, evB_cons, pk, peek, nth, put, bindL_nil, bindL_cons, bindR_nil, bindR_cons, frzL, dat_v, dat_l, Res.dat_v, Res.dat_l, okb, exb, List.map_cons, List.map_nil, toI_int, toB_bool, bin_add, bin_sub, cmp_lt, cmp_le, cmp_gt, cmp_ge, cmp_eqi, cmp_nei, cmp_in, cmp_nin, b1_int, b1_lenl, b1_lent, b1_tupl, b1_tupt, b1_lstt, b1_lstl, ix_t0, ix_t1, isi_tup, isi_int, isi_nb, ev_b1v, ev_b1x, ev_b1c, ev_b1f, ev_b1b, ev_b1n, ev_b1t, ev_b1l, ev_b1s, if_true, if_false, Bool.false_eq_true, Bool.not_true, Bool.not_false, Bool.true_eq_false]
    rw [comp_l (l := st n B) (c := P) (e := fun p => .int p) (by rw [srcV_ix]; simp only [exs_cons, exs_nil, ex_set, ex_sef, ex_unp, ex_par, ex_app, ex_ext, ex_six, ex_exp, ex_ret, ex_retv, ex_iff, ex_rse, ex_frz, ev_var, ev_cst, ev_glb, ev_bin, ev_neg, ev_cmp, ev_chn, ev_bo, ev_nt, ev_ite, ev_tup, ev_lst, ev_ix, ev_slc, ev_call, ev_b2, ev_isi, evs_nil, evs_cons, evr_nil, evr_cons, evB_one, evB_cons, pk, peek, nth, put, bindL_nil, bindL_cons, bindR_nil, bindR_cons, frzL, dat_v, dat_l, Res.dat_v, Res.dat_l, okb, exb, List.map_cons, List.map_nil, toI_int, toB_bool, bin_add, bin_sub, cmp_lt, cmp_le, cmp_gt, cmp_ge, cmp_eqi, cmp_nei, cmp_in, cmp_nin, b1_int, b1_lenl, b1_lent, b1_tupl, b1_tupt, b1_lstt, b1_lstl, ix_t0, ix_t1, isi_tup, isi_int, isi_nb, ev_b1v, ev_b1x, ev_b1c, ev_b1f, ev_b1b, ev_b1n, ev_b1t, ev_b1l, ev_b1s, if_true, if_false, Bool.false_eq_true, Bool.not_true, Bool.not_false, Bool.true_eq_false, ix_sd0]; rfl) (fun p hp => by simp only [exs_cons, exs_nil, ex_set, ex_sef, ex_unp, ex_par, ex_app, ex_ext, ex_six, ex_exp, ex_ret, ex_retv, ex_iff, ex_rse, ex_frz, ev_var, ev_cst, ev_glb, ev_bin, ev_neg, ev_cmp, ev_chn, ev_bo, ev_nt, ev_ite, ev_tup, ev_lst, ev_ix, ev_slc, ev_call, ev_b2, ev_isi, evs_nil, evs_cons, evr_nil, evr_cons, evB_one, evB_cons, pk, peek, nth, put, bindL_nil, bindL_cons, bindR_nil, bindR_cons, frzL, dat_v, dat_l, Res.dat_v, Res.dat_l, okb, exb, List.map_cons, List.map_nil, toI_int, toB_bool, bin_add, bin_sub, cmp_lt, cmp_le, cmp_gt, cmp_ge, cmp_eqi, cmp_nei, cmp_in, cmp_nin, b1_int, b1_lenl, b1_lent, b1_tupl, b1_tupt, b1_lstt, b1_lstl, ix_t0, ix_t1, isi_tup, isi_int, isi_nb, ev_b1v, ev_b1x, ev_b1c, ev_b1f, ev_b1b, ev_b1n, ev_b1t, ev_b1l, ev_b1s, if_true, if_false, Bool.false_eq_true, Bool.not_true, Bool.not_false, Bool.true_eq_false, in_list, mem_dec (mem_st.mp hp).1]) (fun p _ _ => by simp only [exs_cons, exs_nil, ex_set, ex_sef, ex_unp, ex_par, ex_app, ex_ext, ex_six, ex_exp, ex_ret, ex_retv, ex_iff, ex_rse, ex_frz, ev_var, ev_cst, ev_glb, ev_bin, ev_neg, ev_cmp, ev_chn, ev_bo, ev_nt, ev_ite, ev_tup, ev_lst, ev_ix, ev_slc, ev_call, ev_b2, ev_isi, evs_nil, evs_cons, evr_nil, evr_cons, evB_one, evB_cons, pk, peek, nth, put, bindL_nil, bindL_cons, bindR_nil, bindR_cons, frzL, dat_v, dat_l, Res.dat_v, Res.dat_l, okb, exb, List.map_cons, List.map_nil, toI_int, toB_bool, bin_add, bin_sub, cmp_lt, cmp_le, cmp_gt, cmp_ge, cmp_eqi, cmp_nei, cmp_in, cmp_nin, b1_int, b1_lenl, b1_lent, b1_tupl, b1_tupt, b1_lstt, b1_lstl, ix_t0, ix_t1, isi_tup, isi_int, isi_nb, ev_b1v, ev_b1x, ev_b1c, ev_b1f, ev_b1b, ev_b1n, ev_b1t, ev_b1l, ev_b1s, if_true, if_false, Bool.false_eq_true, Bool.not_true, Bool.not_false, Bool.true_eq_false])]
    rw [filt_an]
    have e1 : ∀ X : Int → Bool, (st n X).map (fun p => PyData.int p) = ofI (st n X) := fun X => rfl
    rw [e1]
    simp only [exs_cons, exs_nil, ex_set, ex_sef, ex_unp, ex_par, ex_app, ex_ext, ex_six, ex_exp, ex_ret, ex_retv, ex_iff, ex_rse, ex_frz, ev_var, ev_cst, ev_glb, ev_bin, ev_neg, ev_cmp, ev_chn, ev_bo, ev_nt, ev_ite, ev_tup, ev_lst, ev_ix, ev_slc, ev_call, ev_b2, ev_isi, evs_nil, evs_cons, evr_nil, evr_cons, evB_one, evB_cons, pk, peek, nth, put, bindL_nil, bindL_cons, bindR_nil, bindR_cons, frzL, dat_v, dat_l, Res.dat_v, Res.dat_l, okb, exb, List.map_cons, List.map_nil, toI_int, toB_bool, bin_add, bin_sub, cmp_lt, cmp_le, cmp_gt, cmp_ge, cmp_eqi, cmp_nei, cmp_in, cmp_nin, b1_int, b1_lenl, b1_lent, b1_tupl, b1_tupt, b1_lstt, b1_lstl, ix_t0, ix_t1, isi_tup, isi_int, isi_nb, ev_b1v, ev_b1x, ev_b1c, ev_b1f, ev_b1b, ev_b1n, ev_b1t, ev_b1l, ev_b1s, if_true, if_false, Bool.false_eq_true, Bool.not_true, Bool.not_false, Bool.true_eq_false]
    rw [comp_l (l := st n S) (c := P) (e := fun p => .int p) (by rw [srcV_ix]; simp only [exs_cons, exs_nil, ex_set, ex_sef, ex_unp, ex_par, ex_app, ex_ext, ex_six, ex_exp, ex_ret, ex_retv, ex_iff, ex_rse, ex_frz, ev_var, ev_cst, ev_glb, ev_bin, ev_neg, ev_cmp, ev_chn, ev_bo, ev_nt, ev_ite, ev_tup, ev_lst, ev_ix, ev_slc, ev_call, ev_b2, ev_isi, evs_nil, evs_cons, evr_nil, evr_cons, evB_one, evB_cons, pk, peek, nth, put, bindL_nil, bindL_cons, bindR_nil, bindR_cons, frzL, dat_v, dat_l, Res.dat_v, Res.dat_l, okb, exb, List.map_cons, List.map_nil, toI_int, toB_bool, bin_add, bin_sub, cmp_lt, cmp_le, cmp_gt, cmp_ge, cmp_eqi, cmp_nei, cmp_in, cmp_nin, b1_int, b1_lenl, b1_lent, b1_tupl, b1_tupt, b1_lstt, b1_lstl, ix_t0, ix_t1, isi_tup, isi_int, isi_nb, ev_b1v, ev_b1x, ev_b1c, ev_b1f, ev_b1b, ev_b1n, ev_b1t, ev_b1l, ev_b1s, if_true, if_false, Bool.false_eq_true, Bool.not_true, Bool.not_false, Bool.true_eq_false, ix_sd1]; rfl) (fun p hp => by simp only [exs_cons, exs_nil, ex_set, ex_sef, ex_unp, ex_par, ex_app, ex_ext, ex_six, ex_exp, ex_ret, ex_retv, ex_iff, ex_rse, ex_frz, ev_var, ev_cst, ev_glb, ev_bin, ev_neg, ev_cmp, ev_chn, ev_bo, ev_nt, ev_ite, ev_tup, ev_lst, ev_ix, ev_slc, ev_call, ev_b2, ev_isi, evs_nil, evs_cons, evr_nil, evr_cons, evB_one, evB_cons, pk, peek, nth, put, bindL_nil, bindL_cons, bindR_nil, bindR_cons, frzL, dat_v, dat_l, Res.dat_v, Res.dat_l, okb, exb, List.map_cons, List.map_nil, toI_int, toB_bool, bin_add, bin_sub, cmp_lt, cmp_le, cmp_gt, cmp_ge, cmp_eqi, cmp_nei, cmp_in, cmp_nin, b1_int, b1_lenl, b1_lent, b1_tupl, b1_tupt, b1_lstt, b1_lstl, ix_t0, ix_t1, isi_tup, isi_int, isi_nb, ev_b1v, ev_b1x, ev_b1c, ev_b1f, ev_b1b, ev_b1n, ev_b1t, ev_b1l, ev_b1s, if_true, if_false, Bool.false_eq_true, Bool.not_true, Bool.not_false, Bool.true_eq_false, in_list, mem_dec (mem_st.mp hp).1]) (fun p _ _ => by simp only [exs_cons, exs_nil, ex_set, ex_sef, ex_unp, ex_par, ex_app, ex_ext, ex_six, ex_exp, ex_ret, ex_retv, ex_iff, ex_rse, ex_frz, ev_var, ev_cst, ev_glb, ev_bin, ev_neg, ev_cmp, ev_chn, ev_bo, ev_nt, ev_ite, ev_tup, ev_lst, ev_ix, ev_slc, ev_call, ev_b2, ev_isi, evs_nil, evs_cons, evr_nil, evr_cons, evB_one, evB_cons, pk, peek, nth, put, bindL_nil, bindL_cons, bindR_nil, bindR_cons, frzL, dat_v, dat_l, Res.dat_v, Res.dat_l, okb, exb, List.map_cons, List.map_nil, toI_int, toB_bool, bin_add, bin_sub, cmp_lt, cmp_le, cmp_gt, cmp_ge, cmp_eqi, cmp_nei, cmp_in, cmp_nin, b1_int, b1_lenl, b1_lent, b1_tupl, b1_tupt, b1_lstt, b1_lstl, ix_t0, ix_t1, isi_tup, isi_int, isi_nb, ev_b1v, ev_b1x, ev_b1c, ev_b1f, ev_b1b, ev_b1n, ev_b1t, ev_b1l, ev_b1s, if_true, if_false, Bool.false_eq_true, Bool.not_true, Bool.not_false, Bool.true_eq_false])]
    rw [filt_an, e1]
    have hown := hbt (an B P) (an S P) fun p hp h => by
      unfold an at h ⊢
      rw [Bool.and_eq_true] at h
      rw [sf.dj p hp h.1]
      rfl
    simp only [exs_cons, exs_nil, ex_set, ex_sef, ex_unp, ex_par, ex_app, ex_ext, ex_six, ex_exp, ex_ret, ex_retv, ex_iff, ex_rse, ex_frz, ev_var, ev_cst, ev_glb, ev_bin, ev_neg, ev_cmp, ev_chn, ev_bo, ev_nt, ev_ite, ev_tup, ev_lst, ev_ix, ev_slc, ev_call, ev_b2, ev_isi, evs_nil, evs_cons, evr_nil, evr_cons, evB_one, evB_cons, pk, peek, nth, put, bindL_nil, bindL_cons, bindR_nil, bindR_cons, frzL, dat_v, dat_l, Res.dat_v, Res.dat_l, okb, exb, List.map_cons, List.map_nil, toI_int, toB_bool, bin_add, bin_sub, cmp_lt, cmp_le, cmp_gt, cmp_ge, cmp_eqi, cmp_nei, cmp_in, cmp_nin, b1_int, b1_lenl, b1_lent, b1_tupl, b1_tupt, b1_lstt, b1_lstl, ix_t0, ix_t1, isi_tup, isi_int, isi_nb, ev_b1v, ev_b1x, ev_b1c, ev_b1f, ev_b1b, ev_b1n, ev_b1t, ev_b1l, ev_b1s, if_true, if_false, Bool.false_eq_true, Bool.not_true, Bool.not_false, Bool.true_eq_false, hown]
    rw [comp_l (l := st n P) (c := fun _ => false) (e := fun p => .int p) (by rfl) (fun p hp => by
      have h := mem_st.mp hp
      simp only [exs_cons, exs_nil, ex_set, ex_sef, ex_unp, ex_par, ex_app, ex_ext, ex_six, ex_exp, ex_ret, ex_retv, ex_iff, ex_rse, ex_frz, ev_var, ev_cst, ev_glb, ev_bin, ev_neg, ev_cmp, ev_chn, ev_bo, ev_nt, ev_ite, ev_tup, ev_lst, ev_ix, ev_slc, ev_call, ev_b2, ev_isi, evs_nil, evs_cons, evr_nil, evr_cons, evB_one, evB_cons, pk, peek, nth, put, bindL_nil, bindL_cons, bindR_nil, bindR_cons, frzL, dat_v, dat_l, Res.dat_v, Res.dat_l, okb, exb, List.map_cons, List.map_nil, toI_int, toB_bool, bin_add, bin_sub, cmp_lt, cmp_le, cmp_gt, cmp_ge, cmp_eqi, cmp_nei, cmp_in, cmp_nin, b1_int, b1_lenl, b1_lent, b1_tupl, b1_tupt, b1_lstt, b1_lstl, ix_t0, ix_t1, isi_tup, isi_int, isi_nb, ev_b1v, ev_b1x, ev_b1c, ev_b1f, ev_b1b, ev_b1n, ev_b1t, ev_b1l, ev_b1s, if_true, if_false, Bool.false_eq_true, Bool.not_true, Bool.not_false, Bool.true_eq_false, ix_tl h.1, ft_in hP h.1 h.2, netd]) (fun p _ h => by cases h)]
    rw [filt_false]
    simp only [exs_cons, exs_nil, ex_set, ex_sef, ex_unp, ex_par, ex_app, ex_ext, ex_six, ex_exp, ex_ret, ex_retv, ex_iff, ex_rse, ex_frz, ev_var, ev_cst, ev_glb, ev_bin, ev_neg, ev_cmp, ev_chn, ev_bo, ev_nt, ev_ite, ev_tup, ev_lst, ev_ix, ev_slc, ev_call, ev_b2, ev_isi, evs_nil, evs_cons, evr_nil, evr_cons, evB_one, evB_cons, pk, peek, nth, put, bindL_nil, bindL_cons, bindR_nil, bindR_cons, frzL, dat_v, dat_l, Res.dat_v, Res.dat_l, okb, exb, List.map_cons, List.map_nil, toI_int, toB_bool, bin_add, bin_sub, cmp_lt, cmp_le, cmp_gt, cmp_ge, cmp_eqi, cmp_nei, cmp_in, cmp_nin, b1_int, b1_lenl, b1_lent, b1_tupl, b1_tupt, b1_lstt, b1_lstl, ix_t0, ix_t1, isi_tup, isi_int, isi_nb, ev_b1v, ev_b1x, ev_b1c, ev_b1f, ev_b1b, ev_b1n, ev_b1t, ev_b1l, ev_b1s, if_true, if_false, Bool.false_eq_true, Bool.not_true, Bool.not_false, Bool.true_eq_false, nilnil]
    rw [comp_rg (n := n) (c := fun _ => false) (e := fun p => .int p) (by omega) (by simp only [exs_cons, exs_nil, ex_set, ex_sef, ex_unp, ex_par, ex_app, ex_ext, ex_six, ex_exp, ex_ret, ex_retv, ex_iff, ex_rse, ex_frz, ev_var, ev_cst, ev_glb, ev_bin, ev_neg, ev_cmp, ev_chn, ev_bo, ev_nt, ev_ite, ev_tup, ev_lst, ev_ix, ev_slc, ev_call, ev_b2, ev_isi, evs_nil, evs_cons, evr_nil, evr_cons, evB_one, evB_cons, pk, peek, nth, put, bindL_nil, bindL_cons, bindR_nil, bindR_cons, frzL, dat_v, dat_l, Res.dat_v, Res.dat_l, okb, exb, List.map_cons, List.map_nil, toI_int, toB_bool, bin_add, bin_sub, cmp_lt, cmp_le, cmp_gt, cmp_ge, cmp_eqi, cmp_nei, cmp_in, cmp_nin, b1_int, b1_lenl, b1_lent, b1_tupl, b1_tupt, b1_lstt, b1_lstl, ix_t0, ix_t1, isi_tup, isi_int, isi_nb, ev_b1v, ev_b1x, ev_b1c, ev_b1f, ev_b1b, ev_b1n, ev_b1t, ev_b1l, ev_b1s, if_true, if_false, Bool.false_eq_true, Bool.not_true, Bool.not_false, Bool.true_eq_false, ix_wb0]) (fun p p0 p1 => by
      cases h : P p with
      | true => simp only [exs_cons, exs_nil, ex_set, ex_sef, ex_unp, ex_par, ex_app, ex_ext, ex_six, ex_exp, ex_ret, ex_retv, ex_iff, ex_rse, ex_frz, ev_var, ev_cst, ev_glb, ev_bin, ev_neg, ev_cmp, ev_chn, ev_bo, ev_nt, ev_ite, ev_tup, ev_lst, ev_ix, ev_slc, ev_call, ev_b2, ev_isi, evs_nil, evs_cons, evr_nil, evr_cons, evB_one, evB_cons, pk, peek, nth, put, bindL_nil, bindL_cons, bindR_nil, bindR_cons, frzL, dat_v, dat_l, Res.dat_v, Res.dat_l, okb, exb, List.map_cons, List.map_nil, toI_int, toB_bool, bin_add, bin_sub, cmp_lt, cmp_le, cmp_gt, cmp_ge, cmp_eqi, cmp_nei, cmp_in, cmp_nin, b1_int, b1_lenl, b1_lent, b1_tupl, b1_tupt, b1_lstt, b1_lstl, ix_t0, ix_t1, isi_tup, isi_int, isi_nb, ev_b1v, ev_b1x, ev_b1c, ev_b1f, ev_b1b, ev_b1n, ev_b1t, ev_b1l, ev_b1s, if_true, if_false, Bool.false_eq_true, Bool.not_true, Bool.not_false, Bool.true_eq_false, in_list, mem_dec (B := P) ⟨p0, p1⟩, h]
      | false => simp only [exs_cons, exs_nil, ex_set, ex_sef, ex_unp, ex_par, ex_app, ex_ext, ex_six, ex_exp, ex_ret, ex_retv, ex_iff, ex_rse, ex_frz, ev_var, ev_cst, ev_glb, ev_bin, ev_neg, ev_cmp, ev_chn, ev_bo, ev_nt, ev_ite, ev_tup, ev_lst, ev_ix, ev_slc, ev_call, ev_b2, ev_isi, evs_nil, evs_cons, evr_nil, evr_cons, evB_one, evB_cons, pk, peek, nth, put, bindL_nil, bindL_cons, bindR_nil, bindR_cons, frzL, dat_v, dat_l, Res.dat_v, Res.dat_l, okb, exb, List.map_cons, List.map_nil, toI_int, toB_bool, bin_add, bin_sub, cmp_lt, cmp_le, cmp_gt, cmp_ge, cmp_eqi, cmp_nei, cmp_in, cmp_nin, b1_int, b1_lenl, b1_lent, b1_tupl, b1_tupt, b1_lstt, b1_lstl, ix_t0, ix_t1, isi_tup, isi_int, isi_nb, ev_b1v, ev_b1x, ev_b1c, ev_b1f, ev_b1b, ev_b1n, ev_b1t, ev_b1l, ev_b1s, if_true, if_false, Bool.false_eq_true, Bool.not_true, Bool.not_false, Bool.true_eq_false, in_list, mem_dec (B := P) ⟨p0, p1⟩, h, ix_tl ⟨p0, p1⟩, ft_out hP ⟨p0, p1⟩ h, td, cmp_isn, isNoneD]) (fun p _ _ h => by cases h)]
    unfold st
    rw [filt_false]
    simp only [exs_cons, exs_nil, ex_set, ex_sef, ex_unp, ex_par, ex_app, ex_ext, ex_six, ex_exp, ex_ret, ex_retv, ex_iff, ex_rse, ex_frz, ev_var, ev_cst, ev_glb, ev_bin, ev_neg, ev_cmp, ev_chn, ev_bo, ev_nt, ev_ite, ev_tup, ev_lst, ev_ix, ev_slc, ev_call, ev_b2, ev_isi, evs_nil, evs_cons, evr_nil, evr_cons, evB_one, evB_cons, pk, peek, nth, put, bindL_nil, bindL_cons, bindR_nil, bindR_cons, frzL, dat_v, dat_l, Res.dat_v, Res.dat_l, okb, exb, List.map_cons, List.map_nil, toI_int, toB_bool, bin_add, bin_sub, cmp_lt, cmp_le, cmp_gt, cmp_ge, cmp_eqi, cmp_nei, cmp_in, cmp_nin, b1_int, b1_lenl, b1_lent, b1_tupl, b1_tupt, b1_lstt, b1_lstl, ix_t0, ix_t1, isi_tup, isi_int, isi_nb, ev_b1v, ev_b1x, ev_b1c, ev_b1f, ev_b1b, ev_b1n, ev_b1t, ev_b1l, ev_b1s, if_true, if_false, Bool.false_eq_true, Bool.not_true, Bool.not_false, Bool.true_eq_false, nilnil, c76, cmp_eq_nilt]
    have tailp : ∀ r0 : Env, r0 = [some (.v (scr ns)), some (.v (wb n es)), some (.v (sd n B S)), some (.v (.list (tl n es S B))), some (.v (.list (ofI (st n P)))), none, j6, some (.v (.tuple (ofI (st n (an B P))))), some (.v (.tuple (ofI (st n (an S P))))), some (.v (.list (tl n es (an S P) (an B P)))), some (.v (.list (ofI (st n fun p => (ft n es S B p).isNone)))), none] →
      ∀ (k : Flow → O Flow), (∀ r, k (.nx r) = .ok (.nx r)) → Yes ((ex (cal T G 19) G 1000 (.fr [6] (.var 4) (.cons (.iff (.cmp .ne (.comp (.var 11) [11] (.call 77 (.cons (.var 1) (.cons (.var 2) (.cons (.var 6) .nil)))) (.cmp .nin (.var 11) (.var 7))) (.lst .nil)) (.cons (.ret (.cst (.bool false))) .nil) .nil) .nil)) r0).bind k) fun fl => ∃ r2, fl = .nx r2 ∧ ∃ j4 j6 j7 j8 j9 j10 : Option Res, r2 = [some (.v (scr ns)), some (.v (wb n es)), some (.v (sd n B S)), some (.v (.list (tl n es S B))), j4, none, j6, j7, j8, j9, j10, none] := by
      rintro r0 rfl k hk
      refine fr_yes (enc := .int) (xs := st n P) (fun xs r => (∀ x ∈ xs, x ∈ st n P) ∧ ∃ j6 : Option Res, r = [some (.v (scr ns)), some (.v (wb n es)), some (.v (sd n B S)), some (.v (.list (tl n es S B))), some (.v (.list (ofI (st n P)))), none, j6, some (.v (.tuple (ofI (st n (an B P))))), some (.v (.tuple (ofI (st n (an S P))))), some (.v (.list (tl n es (an S P) (an B P)))), some (.v (.list (ofI (st n fun p => (ft n es S B p).isNone)))), none]) (by rfl) ⟨fun x hx => hx, _, rfl⟩ ?_ ?_
      · rintro x xs r ⟨hin, j6, rfl⟩
        have hx := mem_st.mp (hin x (by simp))
        refine ⟨_, rfl, ?_⟩
        simp only [exs_cons, exs_nil, ex_set, ex_sef, ex_unp, ex_par, ex_app, ex_ext, ex_six, ex_exp, ex_ret, ex_retv, ex_iff, ex_rse, ex_frz, ev_var, ev_cst, ev_glb, ev_bin, ev_neg, ev_cmp, ev_chn, ev_bo, ev_nt, ev_ite, ev_tup, ev_lst, ev_ix, ev_slc, ev_call, ev_b2, ev_isi, evs_nil, evs_cons, evr_nil, evr_cons, evB_one, evB_cons, pk, peek, nth, put, bindL_nil, bindL_cons, bindR_nil, bindR_cons, frzL, dat_v, dat_l, Res.dat_v, Res.dat_l, okb, exb, List.map_cons, List.map_nil, toI_int, toB_bool, bin_add, bin_sub, cmp_lt, cmp_le, cmp_gt, cmp_ge, cmp_eqi, cmp_nei, cmp_in, cmp_nin, b1_int, b1_lenl, b1_lent, b1_tupl, b1_tupt, b1_lstt, b1_lstl, ix_t0, ix_t1, isi_tup, isi_int, isi_nb, ev_b1v, ev_b1x, ev_b1c, ev_b1f, ev_b1b, ev_b1n, ev_b1t, ev_b1l, ev_b1s, if_true, if_false, Bool.false_eq_true, Bool.not_true, Bool.not_false, Bool.true_eq_false]
        rw [comp_l (l := srcs n es S B x) (c := fun _ => false) (e := fun p => .int p) (by rw [srcV_call]; simp only [exs_cons, exs_nil, ex_set, ex_sef, ex_unp, ex_par, ex_app, ex_ext, ex_six, ex_exp, ex_ret, ex_retv, ex_iff, ex_rse, ex_frz, ev_var, ev_cst, ev_glb, ev_bin, ev_neg, ev_cmp, ev_chn, ev_bo, ev_nt, ev_ite, ev_tup, ev_lst, ev_ix, ev_slc, ev_call, ev_b2, ev_isi, evs_nil, evs_cons, evr_nil, evr_cons, evB_one, evB_cons, pk, peek, nth, put, bindL_nil, bindL_cons, bindR_nil, bindR_cons, frzL, dat_v, dat_l, Res.dat_v, Res.dat_l, okb, exb, List.map_cons, List.map_nil, toI_int, toB_bool, bin_add, bin_sub, cmp_lt, cmp_le, cmp_gt, cmp_ge, cmp_eqi, cmp_nei, cmp_in, cmp_nin, b1_int, b1_lenl, b1_lent, b1_tupl, b1_tupt, b1_lstt, b1_lstl, ix_t0, ix_t1, isi_tup, isi_int, isi_nb, ev_b1v, ev_b1x, ev_b1c, ev_b1f, ev_b1b, ev_b1n, ev_b1t, ev_b1l, ev_b1s, if_true, if_false, Bool.false_eq_true, Bool.not_true, Bool.not_false, Bool.true_eq_false, c77 x hx.1]; rfl) (fun b hb => by
          have hbm : b ∈ st n (an B P) := by
            unfold srcs at hb
            split at hb
            · simp at hb
            · rename_i hN
              obtain ⟨hb1, hb2⟩ := List.mem_filter.mp hb
              have hb2 := of_decide_eq_true hb2
              obtain ⟨hbn, hbB⟩ := mem_st.mp hb1
              cases hq : ft n es S B x with
              | none => rw [hq] at hN; exact absurd rfl hN
              | some k =>
                rw [hq] at hb2
                have h1 := bt_rc hhi hx.1 (ft_some.mp hb2).2.1
                have h2 := rc_symm (g := none1) hhi hbn hx.1 rfl h1
                have h3 : rc n es none1 q b = true := rc_trans hhi hbn (by rw [hPd]; exact hx.2) h2
                rw [hPd] at h3
                exact mem_st.mpr ⟨hbn, by unfold an; rw [hbB, h3]; rfl⟩
          have : decide (b ∈ st n (an B P)) = true := decide_eq_true hbm
          simp only [exs_cons, exs_nil, ex_set, ex_sef, ex_unp, ex_par, ex_app, ex_ext, ex_six, ex_exp, ex_ret, ex_retv, ex_iff, ex_rse, ex_frz, ev_var, ev_cst, ev_glb, ev_bin, ev_neg, ev_cmp, ev_chn, ev_bo, ev_nt, ev_ite, ev_tup, ev_lst, ev_ix, ev_slc, ev_call, ev_b2, ev_isi, evs_nil, evs_cons, evr_nil, evr_cons, evB_one, evB_cons, pk, peek, nth, put, bindL_nil, bindL_cons, bindR_nil, bindR_cons, frzL, dat_v, dat_l, Res.dat_v, Res.dat_l, okb, exb, List.map_cons, List.map_nil, toI_int, toB_bool, bin_add, bin_sub, cmp_lt, cmp_le, cmp_gt, cmp_ge, cmp_eqi, cmp_nei, cmp_in, cmp_nin, b1_int, b1_lenl, b1_lent, b1_tupl, b1_tupt, b1_lstt, b1_lstl, ix_t0, ix_t1, isi_tup, isi_int, isi_nb, ev_b1v, ev_b1x, ev_b1c, ev_b1f, ev_b1b, ev_b1n, ev_b1t, ev_b1l, ev_b1s, if_true, if_false, Bool.false_eq_true, Bool.not_true, Bool.not_false, Bool.true_eq_false, in_tup, this]) (fun p _ h => by cases h)]
        rw [filt_false]
        simp only [exs_cons, exs_nil, ex_set, ex_sef, ex_unp, ex_par, ex_app, ex_ext, ex_six, ex_exp, ex_ret, ex_retv, ex_iff, ex_rse, ex_frz, ev_var, ev_cst, ev_glb, ev_bin, ev_neg, ev_cmp, ev_chn, ev_bo, ev_nt, ev_ite, ev_tup, ev_lst, ev_ix, ev_slc, ev_call, ev_b2, ev_isi, evs_nil, evs_cons, evr_nil, evr_cons, evB_one, evB_cons, pk, peek, nth, put, bindL_nil, bindL_cons, bindR_nil, bindR_cons, frzL, dat_v, dat_l, Res.dat_v, Res.dat_l, okb, exb, List.map_cons, List.map_nil, toI_int, toB_bool, bin_add, bin_sub, cmp_lt, cmp_le, cmp_gt, cmp_ge, cmp_eqi, cmp_nei, cmp_in, cmp_nin, b1_int, b1_lenl, b1_lent, b1_tupl, b1_tupt, b1_lstt, b1_lstl, ix_t0, ix_t1, isi_tup, isi_int, isi_nb, ev_b1v, ev_b1x, ev_b1c, ev_b1f, ev_b1b, ev_b1n, ev_b1t, ev_b1l, ev_b1s, if_true, if_false, Bool.false_eq_true, Bool.not_true, Bool.not_false, Bool.true_eq_false, nilnil]
        exact yes_ok ⟨_, rfl, fun y hy => hin y (List.mem_cons_of_mem _ hy), _, rfl⟩
      · rintro r ⟨_, j6, rfl⟩
        rw [hk]
        exact yes_ok ⟨_, rfl, _, _, _, _, _, _, rfl⟩
    cases hE : (List.filter (an B P) (rg n)).isEmpty with
    | false =>
      simp only [exs_cons, exs_nil, ex_set, ex_sef, ex_unp, ex_par, ex_app, ex_ext, ex_six, ex_exp, ex_ret, ex_retv, ex_iff, ex_rse, ex_frz, ev_var, ev_cst, ev_glb, ev_bin, ev_neg, ev_cmp, ev_chn, ev_bo, ev_nt, ev_ite, ev_tup, ev_lst, ev_ix, ev_slc, ev_call, ev_b2, ev_isi, evs_nil, evs_cons, evr_nil, evr_cons, evB_one, evB_cons, pk, peek, nth, put, bindL_nil, bindL_cons, bindR_nil, bindR_cons, frzL, dat_v, dat_l, Res.dat_v, Res.dat_l, okb, exb, List.map_cons, List.map_nil, toI_int, toB_bool, bin_add, bin_sub, cmp_lt, cmp_le, cmp_gt, cmp_ge, cmp_eqi, cmp_nei, cmp_in, cmp_nin, b1_int, b1_lenl, b1_lent, b1_tupl, b1_tupt, b1_lstt, b1_lstl, ix_t0, ix_t1, isi_tup, isi_int, isi_nb, ev_b1v, ev_b1x, ev_b1c, ev_b1f, ev_b1b, ev_b1n, ev_b1t, ev_b1l, ev_b1s, if_true, if_false, Bool.false_eq_true, Bool.not_true, Bool.not_false, Bool.true_eq_false]
      exact tailp _ rfl _ fun r => rfl
    | true =>
      simp only [exs_cons, exs_nil, ex_set, ex_sef, ex_unp, ex_par, ex_app, ex_ext, ex_six, ex_exp, ex_ret, ex_retv, ex_iff, ex_rse, ex_frz, ev_var, ev_cst, ev_glb, ev_bin, ev_neg, ev_cmp, ev_chn, ev_bo, ev_nt, ev_ite, ev_tup, ev_lst, ev_ix, ev_slc, ev_call, ev_b2, ev_isi, evs_nil, evs_cons, evr_nil, evr_cons, evB_one, evB_cons, pk, peek, nth, put, bindL_nil, bindL_cons, bindR_nil, bindR_cons, frzL, dat_v, dat_l, Res.dat_v, Res.dat_l, okb, exb, List.map_cons, List.map_nil, toI_int, toB_bool, bin_add, bin_sub, cmp_lt, cmp_le, cmp_gt, cmp_ge, cmp_eqi, cmp_nei, cmp_in, cmp_nin, b1_int, b1_lenl, b1_lent, b1_tupl, b1_tupt, b1_lstt, b1_lstl, ix_t0, ix_t1, isi_tup, isi_int, isi_nb, ev_b1v, ev_b1x, ev_b1c, ev_b1f, ev_b1b, ev_b1n, ev_b1t, ev_b1l, ev_b1s, if_true, if_false, Bool.false_eq_true, Bool.not_true, Bool.not_false, Bool.true_eq_false]
      rw [comp_l (l := st n P) (c := fun _ => false) (e := fun p => .int p) (by rfl) (fun p hp => by
        have h := mem_st.mp hp
        have hz : ∀ p, In n p → an B P p = false := fun p hp => by
          have : st n (an B P) = [] := List.isEmpty_iff.mp hE
          exact st_nil.mp this p hp.1 hp.2
        have h1 : ft n es S B p = none := by
          rw [← ft_in hP h.1 h.2]
          exact ft_none.mpr fun k _ => bt_nil hz k p h.1
        have h2 : decide (p ∈ st n fun p => (ft n es S B p).isNone) = true := by rw [mem_dec h.1, h1]; rfl
        simp only [exs_cons, exs_nil, ex_set, ex_sef, ex_unp, ex_par, ex_app, ex_ext, ex_six, ex_exp, ex_ret, ex_retv, ex_iff, ex_rse, ex_frz, ev_var, ev_cst, ev_glb, ev_bin, ev_neg, ev_cmp, ev_chn, ev_bo, ev_nt, ev_ite, ev_tup, ev_lst, ev_ix, ev_slc, ev_call, ev_b2, ev_isi, evs_nil, evs_cons, evr_nil, evr_cons, evB_one, evB_cons, pk, peek, nth, put, bindL_nil, bindL_cons, bindR_nil, bindR_cons, frzL, dat_v, dat_l, Res.dat_v, Res.dat_l, okb, exb, List.map_cons, List.map_nil, toI_int, toB_bool, bin_add, bin_sub, cmp_lt, cmp_le, cmp_gt, cmp_ge, cmp_eqi, cmp_nei, cmp_in, cmp_nin, b1_int, b1_lenl, b1_lent, b1_tupl, b1_tupt, b1_lstt, b1_lstl, ix_t0, ix_t1, isi_tup, isi_int, isi_nb, ev_b1v, ev_b1x, ev_b1c, ev_b1f, ev_b1b, ev_b1n, ev_b1t, ev_b1l, ev_b1s, if_true, if_false, Bool.false_eq_true, Bool.not_true, Bool.not_false, Bool.true_eq_false, in_list, h2]) (fun p _ h => by cases h)]
      rw [filt_false]
      simp only [exs_cons, exs_nil, ex_set, ex_sef, ex_unp, ex_par, ex_app, ex_ext, ex_six, ex_exp, ex_ret, ex_retv, ex_iff, ex_rse, ex_frz, ev_var, ev_cst, ev_glb, ev_bin, ev_neg, ev_cmp, ev_chn, ev_bo, ev_nt, ev_ite, ev_tup, ev_lst, ev_ix, ev_slc, ev_call, ev_b2, ev_isi, evs_nil, evs_cons, evr_nil, evr_cons, evB_one, evB_cons, pk, peek, nth, put, bindL_nil, bindL_cons, bindR_nil, bindR_cons, frzL, dat_v, dat_l, Res.dat_v, Res.dat_l, okb, exb, List.map_cons, List.map_nil, toI_int, toB_bool, bin_add, bin_sub, cmp_lt, cmp_le, cmp_gt, cmp_ge, cmp_eqi, cmp_nei, cmp_in, cmp_nin, b1_int, b1_lenl, b1_lent, b1_tupl, b1_tupt, b1_lstt, b1_lstl, ix_t0, ix_t1, isi_tup, isi_int, isi_nb, ev_b1v, ev_b1x, ev_b1c, ev_b1f, ev_b1b, ev_b1n, ev_b1t, ev_b1l, ev_b1s, if_true, if_false, Bool.false_eq_true, Bool.not_true, Bool.not_false, Bool.true_eq_false, nilnil]
      exact tailp _ rfl _ fun r => rfl
  · rintro r ⟨j4, j6, j7, j8, j9, j10, rfl⟩
    simp only [exs_cons, exs_nil, ex_set, ex_sef, ex_unp, ex_par, ex_app, ex_ext, ex_six, ex_exp, ex_ret, ex_retv, ex_iff, ex_rse, ex_frz, ev_var, ev_cst, ev_glb, ev_bin, ev_neg, ev_cmp, ev_chn, ev_bo, ev_nt, ev_ite, ev_tup, ev_lst, ev_ix, ev_slc, ev_call, ev_b2, ev_isi, evs_nil, evs_cons, evr_nil, evr_cons, evB_one, evB_cons, pk, peek, nth, put, bindL_nil, bindL_cons, bindR_nil, bindR_cons, frzL, dat_v, dat_l, Res.dat_v, Res.dat_l, okb, exb, List.map_cons, List.map_nil, toI_int, toB_bool, bin_add, bin_sub, cmp_lt, cmp_le, cmp_gt, cmp_ge, cmp_eqi, cmp_nei, cmp_in, cmp_nin, b1_int, b1_lenl, b1_lent, b1_tupl, b1_tupt, b1_lstt, b1_lstl, ix_t0, ix_t1, isi_tup, isi_int, isi_nb, ev_b1v, ev_b1x, ev_b1c, ev_b1f, ev_b1b, ev_b1n, ev_b1t, ev_b1l, ev_b1s, if_true, if_false, Bool.false_eq_true, Bool.not_true, Bool.not_false, Bool.true_eq_false]
    rw [ev_comp (xs := st n (lead n es none1)) (enc := fun q => .list (ofI (st n (rc n es none1 q)))) (fun q => [some (.v (scr ns)), some (.v (wb n es)), some (.v (sd n B S)), some (.v (.list (tl n es S B))), some (.v (.list (ofI (st n (rc n es none1 q))))), none, j6, j7, j8, j9, j10, none]) (fun q => !((st n (rc n es none1 q)).filter B).isEmpty) (fun q => .list (ofI (st n (rc n es none1 q)))) (by rw [srcV_call]; simp only [exs_cons, exs_nil, ex_set, ex_sef, ex_unp, ex_par, ex_app, ex_ext, ex_six, ex_exp, ex_ret, ex_retv, ex_iff, ex_rse, ex_frz, ev_var, ev_cst, ev_glb, ev_bin, ev_neg, ev_cmp, ev_chn, ev_bo, ev_nt, ev_ite, ev_tup, ev_lst, ev_ix, ev_slc, ev_call, ev_b2, ev_isi, evs_nil, evs_cons, evr_nil, evr_cons, evB_one, evB_cons, pk, peek, nth, put, bindL_nil, bindL_cons, bindR_nil, bindR_cons, frzL, dat_v, dat_l, Res.dat_v, Res.dat_l, okb, exb, List.map_cons, List.map_nil, toI_int, toB_bool, bin_add, bin_sub, cmp_lt, cmp_le, cmp_gt, cmp_ge, cmp_eqi, cmp_nei, cmp_in, cmp_nin, b1_int, b1_lenl, b1_lent, b1_tupl, b1_tupt, b1_lstt, b1_lstl, ix_t0, ix_t1, isi_tup, isi_int, isi_nb, ev_b1v, ev_b1x, ev_b1c, ev_b1f, ev_b1b, ev_b1n, ev_b1t, ev_b1l, ev_b1s, if_true, if_false, Bool.false_eq_true, Bool.not_true, Bool.not_false, Bool.true_eq_false, c64]; rfl) (fun q _ => rfl) (fun q _ => by
        simp only [exs_cons, exs_nil, ex_set, ex_sef, ex_unp, ex_par, ex_app, ex_ext, ex_six, ex_exp, ex_ret, ex_retv, ex_iff, ex_rse, ex_frz, ev_var, ev_cst, ev_glb, ev_bin, ev_neg, ev_cmp, ev_chn, ev_bo, ev_nt, ev_ite, ev_tup, ev_lst, ev_ix, ev_slc, ev_call, ev_b2, ev_isi, evs_nil, evs_cons, evr_nil, evr_cons, evB_one, evB_cons, pk, peek, nth, put, bindL_nil, bindL_cons, bindR_nil, bindR_cons, frzL, dat_v, dat_l, Res.dat_v, Res.dat_l, okb, exb, List.map_cons, List.map_nil, toI_int, toB_bool, bin_add, bin_sub, cmp_lt, cmp_le, cmp_gt, cmp_ge, cmp_eqi, cmp_nei, cmp_in, cmp_nin, b1_int, b1_lenl, b1_lent, b1_tupl, b1_tupt, b1_lstt, b1_lstl, ix_t0, ix_t1, isi_tup, isi_int, isi_nb, ev_b1v, ev_b1x, ev_b1c, ev_b1f, ev_b1b, ev_b1n, ev_b1t, ev_b1l, ev_b1s, if_true, if_false, Bool.false_eq_true, Bool.not_true, Bool.not_false, Bool.true_eq_false]
        rw [comp_l (l := st n (rc n es none1 q)) (c := B) (e := fun p => .int p) (by rfl) (fun p hp => by simp only [exs_cons, exs_nil, ex_set, ex_sef, ex_unp, ex_par, ex_app, ex_ext, ex_six, ex_exp, ex_ret, ex_retv, ex_iff, ex_rse, ex_frz, ev_var, ev_cst, ev_glb, ev_bin, ev_neg, ev_cmp, ev_chn, ev_bo, ev_nt, ev_ite, ev_tup, ev_lst, ev_ix, ev_slc, ev_call, ev_b2, ev_isi, evs_nil, evs_cons, evr_nil, evr_cons, evB_one, evB_cons, pk, peek, nth, put, bindL_nil, bindL_cons, bindR_nil, bindR_cons, frzL, dat_v, dat_l, Res.dat_v, Res.dat_l, okb, exb, List.map_cons, List.map_nil, toI_int, toB_bool, bin_add, bin_sub, cmp_lt, cmp_le, cmp_gt, cmp_ge, cmp_eqi, cmp_nei, cmp_in, cmp_nin, b1_int, b1_lenl, b1_lent, b1_tupl, b1_tupt, b1_lstt, b1_lstl, ix_t0, ix_t1, isi_tup, isi_int, isi_nb, ev_b1v, ev_b1x, ev_b1c, ev_b1f, ev_b1b, ev_b1n, ev_b1t, ev_b1l, ev_b1s, if_true, if_false, Bool.false_eq_true, Bool.not_true, Bool.not_false, Bool.true_eq_false, ix_sd0, in_tup, mem_dec (mem_st.mp hp).1]) (fun p _ _ => by simp only [exs_cons, exs_nil, ex_set, ex_sef, ex_unp, ex_par, ex_app, ex_ext, ex_six, ex_exp, ex_ret, ex_retv, ex_iff, ex_rse, ex_frz, ev_var, ev_cst, ev_glb, ev_bin, ev_neg, ev_cmp, ev_chn, ev_bo, ev_nt, ev_ite, ev_tup, ev_lst, ev_ix, ev_slc, ev_call, ev_b2, ev_isi, evs_nil, evs_cons, evr_nil, evr_cons, evB_one, evB_cons, pk, peek, nth, put, bindL_nil, bindL_cons, bindR_nil, bindR_cons, frzL, dat_v, dat_l, Res.dat_v, Res.dat_l, okb, exb, List.map_cons, List.map_nil, toI_int, toB_bool, bin_add, bin_sub, cmp_lt, cmp_le, cmp_gt, cmp_ge, cmp_eqi, cmp_nei, cmp_in, cmp_nin, b1_int, b1_lenl, b1_lent, b1_tupl, b1_tupt, b1_lstt, b1_lstl, ix_t0, ix_t1, isi_tup, isi_int, isi_nb, ev_b1v, ev_b1x, ev_b1c, ev_b1f, ev_b1b, ev_b1n, ev_b1t, ev_b1l, ev_b1s, if_true, if_false, Bool.false_eq_true, Bool.not_true, Bool.not_false, Bool.true_eq_false])]
        have e1 : ((st n (rc n es none1 q)).filter B).map (fun p => PyData.int p) = ofI ((st n (rc n es none1 q)).filter B) := rfl
        rw [e1]
        simp only [exs_cons, exs_nil, ex_set, ex_sef, ex_unp, ex_par, ex_app, ex_ext, ex_six, ex_exp, ex_ret, ex_retv, ex_iff, ex_rse, ex_frz, ev_var, ev_cst, ev_glb, ev_bin, ev_neg, ev_cmp, ev_chn, ev_bo, ev_nt, ev_ite, ev_tup, ev_lst, ev_ix, ev_slc, ev_call, ev_b2, ev_isi, evs_nil, evs_cons, evr_nil, evr_cons, evB_one, evB_cons, pk, peek, nth, put, bindL_nil, bindL_cons, bindR_nil, bindR_cons, frzL, dat_v, dat_l, Res.dat_v, Res.dat_l, okb, exb, List.map_cons, List.map_nil, toI_int, toB_bool, bin_add, bin_sub, cmp_lt, cmp_le, cmp_gt, cmp_ge, cmp_eqi, cmp_nei, cmp_in, cmp_nin, b1_int, b1_lenl, b1_lent, b1_tupl, b1_tupt, b1_lstt, b1_lstl, ix_t0, ix_t1, isi_tup, isi_int, isi_nb, ev_b1v, ev_b1x, ev_b1c, ev_b1f, ev_b1b, ev_b1n, ev_b1t, ev_b1l, ev_b1s, if_true, if_false, Bool.false_eq_true, Bool.not_true, Bool.not_false, Bool.true_eq_false, cmp_ne_nil]) (fun q _ _ => by simp only [exs_cons, exs_nil, ex_set, ex_sef, ex_unp, ex_par, ex_app, ex_ext, ex_six, ex_exp, ex_ret, ex_retv, ex_iff, ex_rse, ex_frz, ev_var, ev_cst, ev_glb, ev_bin, ev_neg, ev_cmp, ev_chn, ev_bo, ev_nt, ev_ite, ev_tup, ev_lst, ev_ix, ev_slc, ev_call, ev_b2, ev_isi, evs_nil, evs_cons, evr_nil, evr_cons, evB_one, evB_cons, pk, peek, nth, put, bindL_nil, bindL_cons, bindR_nil, bindR_cons, frzL, dat_v, dat_l, Res.dat_v, Res.dat_l, okb, exb, List.map_cons, List.map_nil, toI_int, toB_bool, bin_add, bin_sub, cmp_lt, cmp_le, cmp_gt, cmp_ge, cmp_eqi, cmp_nei, cmp_in, cmp_nin, b1_int, b1_lenl, b1_lent, b1_tupl, b1_tupt, b1_lstt, b1_lstl, ix_t0, ix_t1, isi_tup, isi_int, isi_nb, ev_b1v, ev_b1x, ev_b1c, ev_b1f, ev_b1b, ev_b1n, ev_b1t, ev_b1l, ev_b1s, if_true, if_false, Bool.false_eq_true, Bool.not_true, Bool.not_false, Bool.true_eq_false])]
    simp only [exs_cons, exs_nil, ex_set, ex_sef, ex_unp, ex_par, ex_app, ex_ext, ex_six, ex_exp, ex_ret, ex_retv, ex_iff, ex_rse, ex_frz, ev_var, ev_cst, ev_glb, ev_bin, ev_neg, ev_cmp, ev_chn, ev_bo, ev_nt, ev_ite, ev_tup, ev_lst, ev_ix, ev_slc, ev_call, ev_b2, ev_isi, evs_nil, evs_cons, evr_nil, evr_cons, evB_one, evB_cons, pk, peek, nth, put, bindL_nil, bindL_cons, bindR_nil, bindR_cons, frzL, dat_v, dat_l, Res.dat_v, Res.dat_l, okb, exb, List.map_cons, List.map_nil, toI_int, toB_bool, bin_add, bin_sub, cmp_lt, cmp_le, cmp_gt, cmp_ge, cmp_eqi, cmp_nei, cmp_in, cmp_nin, b1_int, b1_lenl, b1_lent, b1_tupl, b1_tupt, b1_lstt, b1_lstl, ix_t0, ix_t1, isi_tup, isi_int, isi_nb, ev_b1v, ev_b1x, ev_b1c, ev_b1f, ev_b1b, ev_b1n, ev_b1t, ev_b1l, ev_b1s, if_true, if_false, Bool.false_eq_true, Bool.not_true, Bool.not_false, Bool.true_eq_false, O.bind_assoc]
    refine fr_yes (enc := .int) (xs := bl) (fun xs r => (∀ x ∈ xs, x ∈ frp n es S B) ∧ ∃ j6 : Option Res, r = [some (.v (scr ns)), some (.v (wb n es)), some (.v (sd n B S)), some (.v (.list (tl n es S B))), j4, some (.v (.list (((st n (lead n es none1)).filter fun q => !((st n (rc n es none1 q)).filter B).isEmpty).map fun q => .list (ofI (st n (rc n es none1 q)))))), j6, j7, j8, j9, j10, none]) ?_ ⟨hbl, _, rfl⟩ ?_ ?_
    · rw [its_call]
      simp only [exs_cons, exs_nil, ex_set, ex_sef, ex_unp, ex_par, ex_app, ex_ext, ex_six, ex_exp, ex_ret, ex_retv, ex_iff, ex_rse, ex_frz, ev_var, ev_cst, ev_glb, ev_bin, ev_neg, ev_cmp, ev_chn, ev_bo, ev_nt, ev_ite, ev_tup, ev_lst, ev_ix, ev_slc, ev_call, ev_b2, ev_isi, evs_nil, evs_cons, evr_nil, evr_cons, evB_one, evB_cons, pk, peek, nth, put, bindL_nil, bindL_cons, bindR_nil, bindR_cons, frzL, dat_v, dat_l, Res.dat_v, Res.dat_l, okb, exb, List.map_cons, List.map_nil, toI_int, toB_bool, bin_add, bin_sub, cmp_lt, cmp_le, cmp_gt, cmp_ge, cmp_eqi, cmp_nei, cmp_in, cmp_nin, b1_int, b1_lenl, b1_lent, b1_tupl, b1_tupt, b1_lstt, b1_lstl, ix_t0, ix_t1, isi_tup, isi_int, isi_nb, ev_b1v, ev_b1x, ev_b1c, ev_b1f, ev_b1b, ev_b1n, ev_b1t, ev_b1l, ev_b1s, if_true, if_false, Bool.false_eq_true, Bool.not_true, Bool.not_false, Bool.true_eq_false, c82]
      rfl
    · rintro x xs r ⟨hin, j6, rfl⟩
      have hx := frp_mem.mp (hin x (by simp))
      refine ⟨_, rfl, ?_⟩
      simp only [exs_cons, exs_nil, ex_set, ex_sef, ex_unp, ex_par, ex_app, ex_ext, ex_six, ex_exp, ex_ret, ex_retv, ex_iff, ex_rse, ex_frz, ev_var, ev_cst, ev_glb, ev_bin, ev_neg, ev_cmp, ev_chn, ev_bo, ev_nt, ev_ite, ev_tup, ev_lst, ev_ix, ev_slc, ev_call, ev_b2, ev_isi, evs_nil, evs_cons, evr_nil, evr_cons, evB_one, evB_cons, pk, peek, nth, put, bindL_nil, bindL_cons, bindR_nil, bindR_cons, frzL, dat_v, dat_l, Res.dat_v, Res.dat_l, okb, exb, List.map_cons, List.map_nil, toI_int, toB_bool, bin_add, bin_sub, cmp_lt, cmp_le, cmp_gt, cmp_ge, cmp_eqi, cmp_nei, cmp_in, cmp_nin, b1_int, b1_lenl, b1_lent, b1_tupl, b1_tupt, b1_lstt, b1_lstl, ix_t0, ix_t1, isi_tup, isi_int, isi_nb, ev_b1v, ev_b1x, ev_b1c, ev_b1f, ev_b1b, ev_b1n, ev_b1t, ev_b1l, ev_b1s, if_true, if_false, Bool.false_eq_true, Bool.not_true, Bool.not_false, Bool.true_eq_false]
      rw [ev_comp (xs := (st n (lead n es none1)).filter fun q => !((st n (rc n es none1 q)).filter B).isEmpty) (enc := fun q => .list (ofI (st n (rc n es none1 q)))) (fun q => [some (.v (scr ns)), some (.v (wb n es)), some (.v (sd n B S)), some (.v (.list (tl n es S B))), some (.v (.list (ofI (st n (rc n es none1 q))))), some (.v (.list (((st n (lead n es none1)).filter fun q => !((st n (rc n es none1 q)).filter B).isEmpty).map fun q => .list (ofI (st n (rc n es none1 q)))))), some (.v (.int x)), j7, j8, j9, j10, none]) (fun q => rc n es none1 q x) (fun q => .list (ofI (st n (rc n es none1 q)))) (by rfl) (fun q _ => rfl) (fun q _ => by simp only [exs_cons, exs_nil, ex_set, ex_sef, ex_unp, ex_par, ex_app, ex_ext, ex_six, ex_exp, ex_ret, ex_retv, ex_iff, ex_rse, ex_frz, ev_var, ev_cst, ev_glb, ev_bin, ev_neg, ev_cmp, ev_chn, ev_bo, ev_nt, ev_ite, ev_tup, ev_lst, ev_ix, ev_slc, ev_call, ev_b2, ev_isi, evs_nil, evs_cons, evr_nil, evr_cons, evB_one, evB_cons, pk, peek, nth, put, bindL_nil, bindL_cons, bindR_nil, bindR_cons, frzL, dat_v, dat_l, Res.dat_v, Res.dat_l, okb, exb, List.map_cons, List.map_nil, toI_int, toB_bool, bin_add, bin_sub, cmp_lt, cmp_le, cmp_gt, cmp_ge, cmp_eqi, cmp_nei, cmp_in, cmp_nin, b1_int, b1_lenl, b1_lent, b1_tupl, b1_tupt, b1_lstt, b1_lstl, ix_t0, ix_t1, isi_tup, isi_int, isi_nb, ev_b1v, ev_b1x, ev_b1c, ev_b1f, ev_b1b, ev_b1n, ev_b1t, ev_b1l, ev_b1s, if_true, if_false, Bool.false_eq_true, Bool.not_true, Bool.not_false, Bool.true_eq_false, in_list, mem_dec hx.1]) (fun q _ _ => by simp only [exs_cons, exs_nil, ex_set, ex_sef, ex_unp, ex_par, ex_app, ex_ext, ex_six, ex_exp, ex_ret, ex_retv, ex_iff, ex_rse, ex_frz, ev_var, ev_cst, ev_glb, ev_bin, ev_neg, ev_cmp, ev_chn, ev_bo, ev_nt, ev_ite, ev_tup, ev_lst, ev_ix, ev_slc, ev_call, ev_b2, ev_isi, evs_nil, evs_cons, evr_nil, evr_cons, evB_one, evB_cons, pk, peek, nth, put, bindL_nil, bindL_cons, bindR_nil, bindR_cons, frzL, dat_v, dat_l, Res.dat_v, Res.dat_l, okb, exb, List.map_cons, List.map_nil, toI_int, toB_bool, bin_add, bin_sub, cmp_lt, cmp_le, cmp_gt, cmp_ge, cmp_eqi, cmp_nei, cmp_in, cmp_nin, b1_int, b1_lenl, b1_lent, b1_tupl, b1_tupt, b1_lstt, b1_lstl, ix_t0, ix_t1, isi_tup, isi_int, isi_nb, ev_b1v, ev_b1x, ev_b1c, ev_b1f, ev_b1b, ev_b1n, ev_b1t, ev_b1l, ev_b1s, if_true, if_false, Bool.false_eq_true, Bool.not_true, Bool.not_false, Bool.true_eq_false])]
      have hne : (((st n (lead n es none1)).filter fun q => !((st n (rc n es none1 q)).filter B).isEmpty).filter fun q => rc n es none1 q x) ≠ [] := fun hnil => by
        obtain ⟨b, hbn, hbB, hbx⟩ := (bt_one 7 x hx.1).mp hx.2.1
        have h1 := bt_rc hhi hx.1 hbx
        obtain ⟨q, hqn, _, hql, hqx⟩ := lead_ex (g := none1) hhi hx.1 b.toNat b (Nat.le_refl _) hbn rfl h1
        have h2 : rc n es none1 q b = true := rc_trans hhi hbn hqx (rc_symm (g := none1) hhi hbn hx.1 rfl h1)
        have hmem : q ∈ (((st n (lead n es none1)).filter fun q => !((st n (rc n es none1 q)).filter B).isEmpty).filter fun q => rc n es none1 q x) := by
          refine List.mem_filter.mpr ⟨List.mem_filter.mpr ⟨mem_st.mpr ⟨hqn, hql⟩, ?_⟩, hqx⟩
          have hb : b ∈ (st n (rc n es none1 q)).filter B := List.mem_filter.mpr ⟨mem_st.mpr ⟨hbn, h2⟩, hbB⟩
          cases z : (st n (rc n es none1 q)).filter B with
          | nil => rw [z] at hb; simp at hb
          | cons a l => rfl
        rw [hnil] at hmem
        simp at hmem
      have hcmp := cmp_eq_nilL (k := 1) (l := ((((st n (lead n es none1)).filter fun q => !((st n (rc n es none1 q)).filter B).isEmpty).filter fun q => rc n es none1 q x).map fun q => PyData.list (ofI (st n (rc n es none1 q))))) (plA_map fun q _ => pl_ofI _ 0) (by omega)
      have hie : ((((st n (lead n es none1)).filter fun q => !((st n (rc n es none1 q)).filter B).isEmpty).filter fun q => rc n es none1 q x).map fun q => PyData.list (ofI (st n (rc n es none1 q)))).isEmpty = false := by
        cases z : (((st n (lead n es none1)).filter fun q => !((st n (rc n es none1 q)).filter B).isEmpty).filter fun q => rc n es none1 q x) with
        | nil => exact absurd z hne
        | cons a l => rfl
      rw [hie] at hcmp
      simp only [exs_cons, exs_nil, ex_set, ex_sef, ex_unp, ex_par, ex_app, ex_ext, ex_six, ex_exp, ex_ret, ex_retv, ex_iff, ex_rse, ex_frz, ev_var, ev_cst, ev_glb, ev_bin, ev_neg, ev_cmp, ev_chn, ev_bo, ev_nt, ev_ite, ev_tup, ev_lst, ev_ix, ev_slc, ev_call, ev_b2, ev_isi, evs_nil, evs_cons, evr_nil, evr_cons, evB_one, evB_cons, pk, peek, nth, put, bindL_nil, bindL_cons, bindR_nil, bindR_cons, frzL, dat_v, dat_l, Res.dat_v, Res.dat_l, okb, exb, List.map_cons, List.map_nil, toI_int, toB_bool, bin_add, bin_sub, cmp_lt, cmp_le, cmp_gt, cmp_ge, cmp_eqi, cmp_nei, cmp_in, cmp_nin, b1_int, b1_lenl, b1_lent, b1_tupl, b1_tupt, b1_lstt, b1_lstl, ix_t0, ix_t1, isi_tup, isi_int, isi_nb, ev_b1v, ev_b1x, ev_b1c, ev_b1f, ev_b1b, ev_b1n, ev_b1t, ev_b1l, ev_b1s, if_true, if_false, Bool.false_eq_true, Bool.not_true, Bool.not_false, Bool.true_eq_false, hcmp]
      exact yes_ok ⟨_, rfl, fun y hy => hin y (List.mem_cons_of_mem _ hy), _, rfl⟩
    · rintro r ⟨_, j6, rfl⟩
      simp only [exs_cons, exs_nil, ex_set, ex_sef, ex_unp, ex_par, ex_app, ex_ext, ex_six, ex_exp, ex_ret, ex_retv, ex_iff, ex_rse, ex_frz, ev_var, ev_cst, ev_glb, ev_bin, ev_neg, ev_cmp, ev_chn, ev_bo, ev_nt, ev_ite, ev_tup, ev_lst, ev_ix, ev_slc, ev_call, ev_b2, ev_isi, evs_nil, evs_cons, evr_nil, evr_cons, evB_one, evB_cons, pk, peek, nth, put, bindL_nil, bindL_cons, bindR_nil, bindR_cons, frzL, dat_v, dat_l, Res.dat_v, Res.dat_l, okb, exb, List.map_cons, List.map_nil, toI_int, toB_bool, bin_add, bin_sub, cmp_lt, cmp_le, cmp_gt, cmp_ge, cmp_eqi, cmp_nei, cmp_in, cmp_nin, b1_int, b1_lenl, b1_lent, b1_tupl, b1_tupt, b1_lstt, b1_lstl, ix_t0, ix_t1, isi_tup, isi_int, isi_nb, ev_b1v, ev_b1x, ev_b1c, ev_b1f, ev_b1b, ev_b1n, ev_b1t, ev_b1l, ev_b1s, if_true, if_false, Bool.false_eq_true, Bool.not_true, Bool.not_false, Bool.true_eq_false]
      exact yes_ok rfl
end HF

set_option Elab.async false
set_option linter.all false
set_option maxRecDepth 100000
set_option maxHeartbeats 4000000
/-! ### GK: how far places lie -/
namespace HF
open PySem
section
variable {cl : Nat → List Res → O Res} {G : List PyData} {fuel : Nat} {r : Env}
theorem ev_kin (neg : Bool) (i : Nat) (e : E) : ev cl G (.kin neg i e) r = (dat (ev cl G e r)).bind fun x => (toI x).bind fun j => match nth r i with
    | some (.k kvs) => .ok (.v (.bool (if neg then !(lookK kvs j).isSome else (lookK kvs j).isSome)))
    | _ => .no := by simp only [ev] <;> rfl
theorem ev_kget (i : Nat) (e : E) : ev cl G (.kget i e) r = (match nth r i with
    | some (.k kvs) => (dat (ev cl G e r)).bind fun x => (toI x).bind fun j => .ok (.v ((lookK kvs j).getD .none))
    | _ => .no) := by simp only [ev] <;> rfl
theorem ev_kix (i : Nat) (e : E) : ev cl G (.kix i e) r = (match nth r i with
    | some (.k kvs) => (dat (ev cl G e r)).bind fun x => (toI x).bind fun j => (match lookK kvs j with
      | some d => .ok (.v d)
      | none => .no)
    | _ => .no) := by simp only [ev] <;> rfl
theorem ex_kst (i : Nat) (a b : E) : ex cl G fuel (.kst i a b) r = (match nth r i with
    | some (.k kvs) => (dat (ev cl G b r)).bind fun y => (dat (ev cl G a r)).bind fun x => (toI x).bind fun k => if kvs.length < 1000 then .ok (.nx (put r i (.k (putK kvs k y)))) else .no
    | _ => .no) := by simp only [ex] <;> rfl
theorem ex_kds (i : Nat) (a b : E) : ex cl G fuel (.kds i a b) r = (dat (ev cl G a r)).bind fun x => (dat (ev cl G b r)).bind fun y => (toI x).bind fun k => .ok (.nx (put r i (.k [(k, y)]))) := by simp only [ex]
end
theorem look_map {f : Int → PyData} : ∀ {l : List Int} {x : Int}, lookK (l.map fun v => (v, f v)) x = if x ∈ l then some (f x) else none
  | [], x => by simp [lookK]
  | a :: l, x => by
    simp only [List.map_cons, lookK]
    by_cases e : a = x
    · subst e
      simp
    · rw [if_neg e, look_map]
      simp only [List.mem_cons]
      by_cases h : x ∈ l
      · simp [h]
      · rw [if_neg h, if_neg (by rintro (z | z); exact e z.symm; exact h z)]
theorem put_map {f : Int → PyData} {l : List Int} {x : Int} (h : x ∉ l) : putK (l.map fun v => (v, f v)) x (f x) = (l ++ [x]).map fun v => (v, f v) := by
  unfold putK
  rw [if_neg, List.map_append]
  · rfl
  · intro z
    rw [List.any_map, List.any_eq_true] at z
    obtain ⟨v, hv, e⟩ := z
    have : v = x := by simpa using e
    exact h (this ▸ hv)
/-- by how many ties -/
def dd (n : Nat) (es : List (Int × Int)) (s v : Int) : Option Nat := ft n es none1 (fun q => decide (q = s)) v
def lv (n : Nat) (es : List (Int × Int)) (s v : Int) : Nat := (dd n es s v).getD 0
section
variable {n : Nat} {es : List (Int × Int)} {s : Int}
theorem dd_some {v : Int} {k : Nat} : dd n es s v = some k ↔ k < 8 ∧ bt n es none1 (fun q => decide (q = s)) k v = true ∧ ∀ j, j < k → bt n es none1 (fun q => decide (q = s)) j v = false := ft_some
theorem dd_self : dd n es s s = some 0 := dd_some.mpr ⟨by omega, decide_eq_true rfl, fun j hj => by omega⟩
theorem dd_zero {v : Int} (h : dd n es s v = some 0) : v = s := of_decide_eq_true (dd_some.mp h).2.1
/-- a tie ahead -/
theorem dd_pre {v : Int} {k : Nat} (h : dd n es s v = some (k + 1)) : ∃ z, In n z ∧ adj es v z = true ∧ dd n es s z = some k := by
  obtain ⟨h1, h2, h3⟩ := dd_some.mp h
  rcases nx_iff.mp h2 with z | ⟨_, z⟩
  · rw [h3 k (by omega)] at z; cases z
  · obtain ⟨x, hx, ha, hb⟩ := nb_iff.mp z
    refine ⟨x, hx, ha, dd_some.mpr ⟨by omega, hb, fun j hj => ?_⟩⟩
    cases q : bt n es none1 (fun q => decide (q = s)) j x with
    | false => rfl
    | true =>
      have hv : In n v ∨ True := .inr trivial
      have : bt n es none1 (fun q => decide (q = s)) (j + 1) v = true := nx_iff.mpr (.inr ⟨rfl, nb_iff.mpr ⟨x, hx, ha, q⟩⟩)
      rw [h3 (j + 1) (by omega)] at this
      cases this
/-- a tie further -/
theorem dd_nb (hn : n ≤ 7) {u x : Int} {k : Nat} (hu : In n u) (hx : In n x) (ha : adj es u x = true) (h : dd n es s u = some k) : ∃ j, j ≤ k + 1 ∧ dd n es s x = some j := by
  obtain ⟨h1, h2, _⟩ := dd_some.mp h
  have hb : bt n es none1 (fun q => decide (q = s)) (k + 1) x = true := nx_iff.mpr (.inr ⟨rfl, nb_iff.mpr ⟨u, hu, by rw [adj_symm]; exact ha, h2⟩⟩)
  cases q : dd n es s x with
  | none =>
    have := (ft_none' hn hx).mp q (k + 1)
    rw [hb] at this
    cases this
  | some j =>
    refine ⟨j, ?_, rfl⟩
    refine Classical.byContradiction fun z => ?_
    have := (dd_some.mp q).2.2 (k + 1) (by omega)
    rw [hb] at this
    cases this
theorem lv_of {v : Int} {k : Nat} (h : dd n es s v = some k) : lv n es s v = k := by unfold lv; rw [h]; rfl
end
section
variable {T : List Fn} {G : List PyData} {n : Nat} {es : List (Int × Int)}
theorem ix_mid {pre post : List Int} {u : Int} : ixD (.list (ofI (pre ++ u :: post))) (.int ((pre.length : Nat) : Int)) = .ok (.int u) := by
  refine at_ok (i := pre.length) ?_
  unfold ofI
  rw [List.getElem?_map, List.getElem?_append_right (Nat.le_refl _)]
  simp
theorem far_from_ok (t : Looks T G) (h5 : nthF T 5 = some u_far_from) (w : WF n es) {s : Int} (hs : In n s) (m : Nat) : cal T G (m + 2) 5 [.v (wb n es), .v (.int s)] = .ok (.l (tl n es none1 fun q => decide (q = s))) := by
  refine Yes.eq ?_
  rw [cal_eq h5 rfl]
  show Yes ((exs (cal T G (m + 1)) G 1000 u_far_from.body [some (.v (wb n es)), some (.v (.int s)), none, none, none, none]).bind _) _
  have hhi := w.hi
  unfold u_far_from
  dsimp only
  simp only [exs_cons, exs_nil, ex_set, ex_sef, ex_unp, ex_par, ex_app, ex_ext, ex_six, ex_exp, ex_ret, ex_retv, ex_iff, ex_rse, ex_frz, ev_var, ev_cst, ev_glb, ev_bin, ev_neg, ev_cmp, ev_chn, ev_bo, ev_nt, ev_ite, ev_tup, ev_lst, ev_ix, ev_slc, ev_call, ev_b2, ev_isi, evs_nil, evs_cons, evr_nil, evr_cons, evB_one, evB_cons, pk, peek, nth, put, bindL_nil, bindL_cons, bindR_nil, bindR_cons, frzL, dat_v, dat_l, Res.dat_v, Res.dat_l, okb, exb, List.map_cons, List.map_nil, toI_int, toB_bool, bin_add, bin_sub, cmp_lt, cmp_le, cmp_gt, cmp_ge, cmp_eqi, cmp_nei, cmp_in, cmp_nin, b1_int, b1_lenl, b1_lent, b1_tupl, b1_tupt, b1_lstt, b1_lstl, ix_t0, ix_t1, isi_tup, isi_int, isi_nb, ev_b1v, ev_b1x, ev_b1c, ev_b1f, ev_b1b, ev_b1n, ev_b1t, ev_b1l, ev_b1s, if_true, if_false, Bool.false_eq_true, Bool.not_true, Bool.not_false, Bool.true_eq_false, ex_kds, O.bind_assoc]
  -- all that lies within comes by and by
  have all6 : ∀ (pre post : List Int), s ∈ pre ++ post → (∀ u ∈ pre, ∀ x, In n x → adj es u x = true → x ∈ pre ++ post) → ∀ (j : Nat) (y : Int), In n y → dd n es s y = some j → y ∈ pre ∨ ∃ u ∈ post, lv n es s u ≤ j := by
    intro pre post h0 hc j
    induction j with
    | zero =>
      intro y _ h
      rw [dd_zero h]
      rcases List.mem_append.mp h0 with z | z
      · exact .inl z
      · exact .inr ⟨s, z, by rw [lv_of dd_self]; exact Nat.le_refl _⟩
    | succ j ih =>
      intro y hy h
      obtain ⟨z, hz, ha, hd⟩ := dd_pre h
      rcases ih z hz hd with q | ⟨u, hu, hl⟩
      · rcases List.mem_append.mp (hc z q y hy (by rw [adj_symm]; exact ha)) with p | p
        · exact .inl p
        · exact .inr ⟨y, p, by rw [lv_of h]; exact Nat.le_refl _⟩
      · exact .inr ⟨u, hu, by omega⟩
  refine whl_yes (fun mm r => ∃ (pre post : List Int) (j5 : Option Res), (pre ++ post).Nodup ∧ (∀ v ∈ pre ++ post, In n v ∧ ∃ k, dd n es s v = some k) ∧ s ∈ pre ++ post ∧ (pre ++ post).Pairwise (fun u v => lv n es s u ≤ lv n es s v) ∧ (∀ u ∈ pre, ∀ x, In n x → adj es u x = true → x ∈ pre ++ post) ∧
      (∀ u ∈ post, ∀ v ∈ pre ++ post, lv n es s v ≤ lv n es s u + 1) ∧ mm = n - pre.length ∧
      r = [some (.v (wb n es)), some (.v (.int s)), some (.k ((pre ++ post).map fun v => (v, .int (lv n es s v : Nat)))), some (.l (ofI (pre ++ post))), some (.v (.int ((pre.length : Nat) : Int))), j5]) n (by omega)
    ⟨[], [s], none, by simp, fun v hv => by rw [List.mem_singleton.mp hv]; exact ⟨hs, 0, dd_self⟩, by simp, by simp, by simp, fun u hu v hv => by rw [List.mem_singleton.mp hu, List.mem_singleton.mp hv]; omega, rfl, by simp only [List.nil_append, List.map_cons, List.map_nil, lv_of dd_self]; rfl⟩ ?_ ?_
  · rintro mm r ⟨pre, post, j5, nd, hv, h0, hsrt, hcl, hb, rfl, rfl⟩
    have hlen := nodup_len nd fun v h => (hv v h).1
    cases post with
    | nil =>
      left
      simp only [exs_cons, exs_nil, ex_set, ex_sef, ex_unp, ex_par, ex_app, ex_ext, ex_six, ex_exp, ex_ret, ex_retv, ex_iff, ex_rse, ex_frz, ev_var, ev_cst, ev_glb, ev_bin, ev_neg, ev_cmp, ev_chn, ev_bo, ev_nt, ev_ite, ev_tup, ev_lst, ev_ix, ev_slc, ev_call, ev_b2, ev_isi, evs_nil, evs_cons, evr_nil, evr_cons, evB_one, evB_cons, pk, peek, nth, put, bindL_nil, bindL_cons, bindR_nil, bindR_cons, frzL, dat_v, dat_l, Res.dat_v, Res.dat_l, okb, exb, List.map_cons, List.map_nil, toI_int, toB_bool, bin_add, bin_sub, cmp_lt, cmp_le, cmp_gt, cmp_ge, cmp_eqi, cmp_nei, cmp_in, cmp_nin, b1_int, b1_lenl, b1_lent, b1_tupl, b1_tupt, b1_lstt, b1_lstl, ix_t0, ix_t1, isi_tup, isi_int, isi_nb, ev_b1v, ev_b1x, ev_b1c, ev_b1f, ev_b1b, ev_b1n, ev_b1t, ev_b1l, ev_b1s, if_true, if_false, Bool.false_eq_true, Bool.not_true, Bool.not_false, Bool.true_eq_false, ofI_len, List.append_nil]
      congr 1
      exact decide_eq_false (by omega)
    | cons u post =>
      right
      have hlt : ((pre.length : Nat) : Int) < (((ofI (pre ++ u :: post)).length : Nat) : Int) := by
        rw [ofI_len, List.length_append, List.length_cons]
        omega
      have hu := hv u (by simp)
      obtain ⟨ku, hku⟩ := hu.2
      have hlu : lv n es s u = ku := lv_of hku
      refine ⟨by simp only [exs_cons, exs_nil, ex_set, ex_sef, ex_unp, ex_par, ex_app, ex_ext, ex_six, ex_exp, ex_ret, ex_retv, ex_iff, ex_rse, ex_frz, ev_var, ev_cst, ev_glb, ev_bin, ev_neg, ev_cmp, ev_chn, ev_bo, ev_nt, ev_ite, ev_tup, ev_lst, ev_ix, ev_slc, ev_call, ev_b2, ev_isi, evs_nil, evs_cons, evr_nil, evr_cons, evB_one, evB_cons, pk, peek, nth, put, bindL_nil, bindL_cons, bindR_nil, bindR_cons, frzL, dat_v, dat_l, Res.dat_v, Res.dat_l, okb, exb, List.map_cons, List.map_nil, toI_int, toB_bool, bin_add, bin_sub, cmp_lt, cmp_le, cmp_gt, cmp_ge, cmp_eqi, cmp_nei, cmp_in, cmp_nin, b1_int, b1_lenl, b1_lent, b1_tupl, b1_tupt, b1_lstt, b1_lstl, ix_t0, ix_t1, isi_tup, isi_int, isi_nb, ev_b1v, ev_b1x, ev_b1c, ev_b1f, ev_b1b, ev_b1n, ev_b1t, ev_b1l, ev_b1s, if_true, if_false, Bool.false_eq_true, Bool.not_true, Bool.not_false, Bool.true_eq_false, hlt, decide_true], ?_⟩
      have hbc := beside_ok t w hu.1 m
      simp only [exs_cons, exs_nil, ex_set, ex_sef, ex_unp, ex_par, ex_app, ex_ext, ex_six, ex_exp, ex_ret, ex_retv, ex_iff, ex_rse, ex_frz, ev_var, ev_cst, ev_glb, ev_bin, ev_neg, ev_cmp, ev_chn, ev_bo, ev_nt, ev_ite, ev_tup, ev_lst, ev_ix, ev_slc, ev_call, ev_b2, ev_isi, evs_nil, evs_cons, evr_nil, evr_cons, evB_one, evB_cons, pk, peek, nth, put, bindL_nil, bindL_cons, bindR_nil, bindR_cons, frzL, dat_v, dat_l, Res.dat_v, Res.dat_l, okb, exb, List.map_cons, List.map_nil, toI_int, toB_bool, bin_add, bin_sub, cmp_lt, cmp_le, cmp_gt, cmp_ge, cmp_eqi, cmp_nei, cmp_in, cmp_nin, b1_int, b1_lenl, b1_lent, b1_tupl, b1_tupt, b1_lstt, b1_lstl, ix_t0, ix_t1, isi_tup, isi_int, isi_nb, ev_b1v, ev_b1x, ev_b1c, ev_b1f, ev_b1b, ev_b1n, ev_b1t, ev_b1l, ev_b1s, if_true, if_false, Bool.false_eq_true, Bool.not_true, Bool.not_false, Bool.true_eq_false]
      refine fr_yes (enc := .int) (xs := st n (adj es u)) (fun ys r => ∃ (d new : List Int) (j5 : Option Res), d ++ ys = st n (adj es u) ∧ (pre ++ u :: post ++ new).Nodup ∧ (∀ v ∈ pre ++ u :: post ++ new, In n v ∧ ∃ k, dd n es s v = some k) ∧ (pre ++ u :: post ++ new).Pairwise (fun u v => lv n es s u ≤ lv n es s v) ∧ (∀ v ∈ pre ++ u :: post ++ new, lv n es s v ≤ ku + 1) ∧ (∀ x ∈ d, x ∈ pre ++ u :: post ++ new) ∧
        r = [some (.v (wb n es)), some (.v (.int s)), some (.k ((pre ++ u :: post ++ new).map fun v => (v, .int (lv n es s v : Nat)))), some (.l (ofI (pre ++ u :: post ++ new))), some (.v (.int ((pre.length : Nat) : Int))), j5]) ?_
        ⟨[], [], j5, rfl, by rw [List.append_nil]; exact nd, by rw [List.append_nil]; exact hv, by rw [List.append_nil]; exact hsrt, by rw [List.append_nil, ← hlu]; exact hb u (by simp), by simp, by rw [List.append_nil]⟩ ?_ ?_
      · rw [its_call]
        simp only [exs_cons, exs_nil, ex_set, ex_sef, ex_unp, ex_par, ex_app, ex_ext, ex_six, ex_exp, ex_ret, ex_retv, ex_iff, ex_rse, ex_frz, ev_var, ev_cst, ev_glb, ev_bin, ev_neg, ev_cmp, ev_chn, ev_bo, ev_nt, ev_ite, ev_tup, ev_lst, ev_ix, ev_slc, ev_call, ev_b2, ev_isi, evs_nil, evs_cons, evr_nil, evr_cons, evB_one, evB_cons, pk, peek, nth, put, bindL_nil, bindL_cons, bindR_nil, bindR_cons, frzL, dat_v, dat_l, Res.dat_v, Res.dat_l, okb, exb, List.map_cons, List.map_nil, toI_int, toB_bool, bin_add, bin_sub, cmp_lt, cmp_le, cmp_gt, cmp_ge, cmp_eqi, cmp_nei, cmp_in, cmp_nin, b1_int, b1_lenl, b1_lent, b1_tupl, b1_tupt, b1_lstt, b1_lstl, ix_t0, ix_t1, isi_tup, isi_int, isi_nb, ev_b1v, ev_b1x, ev_b1c, ev_b1f, ev_b1b, ev_b1n, ev_b1t, ev_b1l, ev_b1s, if_true, if_false, Bool.false_eq_true, Bool.not_true, Bool.not_false, Bool.true_eq_false, ix_mid, hbc]
        rfl
      · rintro x ys r ⟨d, new, j5, hd, nd1, hv1, hs1, hb1, hd1, rfl⟩
        have hx := mem_st.mp (show x ∈ st n (adj es u) by rw [← hd]; simp)
        have hlen1 := nodup_len nd1 fun v h => (hv1 v h).1
        refine ⟨_, rfl, ?_⟩
        by_cases hm : x ∈ pre ++ u :: post ++ new
        · simp only [exs_cons, exs_nil, ex_set, ex_sef, ex_unp, ex_par, ex_app, ex_ext, ex_six, ex_exp, ex_ret, ex_retv, ex_iff, ex_rse, ex_frz, ev_var, ev_cst, ev_glb, ev_bin, ev_neg, ev_cmp, ev_chn, ev_bo, ev_nt, ev_ite, ev_tup, ev_lst, ev_ix, ev_slc, ev_call, ev_b2, ev_isi, evs_nil, evs_cons, evr_nil, evr_cons, evB_one, evB_cons, pk, peek, nth, put, bindL_nil, bindL_cons, bindR_nil, bindR_cons, frzL, dat_v, dat_l, Res.dat_v, Res.dat_l, okb, exb, List.map_cons, List.map_nil, toI_int, toB_bool, bin_add, bin_sub, cmp_lt, cmp_le, cmp_gt, cmp_ge, cmp_eqi, cmp_nei, cmp_in, cmp_nin, b1_int, b1_lenl, b1_lent, b1_tupl, b1_tupt, b1_lstt, b1_lstl, ix_t0, ix_t1, isi_tup, isi_int, isi_nb, ev_b1v, ev_b1x, ev_b1c, ev_b1f, ev_b1b, ev_b1n, ev_b1t, ev_b1l, ev_b1s, if_true, if_false, Bool.false_eq_true, Bool.not_true, Bool.not_false, Bool.true_eq_false, ev_kin, look_map, if_pos hm, Option.isSome_some]
          refine yes_ok ⟨_, rfl, d ++ [x], new, _, by simp [hd], nd1, hv1, hs1, hb1, fun y hy => ?_, rfl⟩
          rcases List.mem_append.mp hy with z | z
          · exact hd1 y z
          · rw [List.mem_singleton.mp z]; exact hm
        · have hdx : dd n es s x = some (ku + 1) := by
            obtain ⟨j, hj, hdj⟩ := dd_nb hhi hu.1 hx.1 hx.2 hku
            cases j with
            | zero =>
              exact absurd (by rw [dd_zero hdj]; simp only [List.mem_append] at h0 ⊢; exact .inl h0) hm
            | succ j =>
              by_cases e : j = ku
              · rw [hdj, e]
              · obtain ⟨z, hz, ha, hdz⟩ := dd_pre hdj
                rcases all6 pre (u :: post) h0 hcl j z hz hdz with q | ⟨u', hu', hl⟩
                · exact absurd (List.mem_append.mpr (.inl (hcl z q x hx.1 (by rw [adj_symm]; exact ha)))) hm
                · have : lv n es s u ≤ lv n es s u' := by
                    rcases List.mem_cons.mp hu' with e2 | e2
                    · rw [e2]; exact Nat.le_refl _
                    · have hp := (List.pairwise_append.mp hsrt).2.1
                      exact (List.pairwise_cons.mp hp).1 u' e2
                  omega
          have hlx : lv n es s x = ku + 1 := lv_of hdx
          have hmu : u ∈ pre ++ u :: post ++ new := by simp
          have c1 : (ofI (pre ++ u :: post ++ new)).length < cap := by rw [ofI_len]; unfold cap; omega
          have c2 : ((pre ++ u :: post ++ new).map fun v => (v, PyData.int (lv n es s v : Nat))).length < 1000 := by rw [List.length_map]; omega
          have hixu : ixD (.list (ofI (pre ++ u :: post ++ new))) (.int ((pre.length : Nat) : Int)) = .ok (.int u) := by
            rw [List.append_assoc, List.cons_append]
            exact ix_mid
          have epk : putK ((pre ++ u :: post ++ new).map fun v => (v, PyData.int (lv n es s v : Nat))) x (.int (((lv n es s u : Nat) : Int) + 1)) = (pre ++ u :: post ++ new ++ [x]).map fun v => (v, PyData.int (lv n es s v : Nat)) := by
            have e := put_map (f := fun v => PyData.int (lv n es s v : Nat)) hm
            rw [← e]
            congr 2
            rw [hlx, hlu]
            omega
          simp only [exs_cons, exs_nil, ex_set, ex_sef, ex_unp, ex_par, ex_app, ex_ext, ex_six, ex_exp, ex_ret, ex_retv, ex_iff, ex_rse, ex_frz, ev_var, ev_cst, ev_glb, ev_bin, ev_neg, ev_cmp, ev_chn, ev_bo, ev_nt, ev_ite, ev_tup, ev_lst, ev_ix, ev_slc, ev_call, ev_b2, ev_isi, evs_nil, evs_cons, evr_nil, evr_cons, evB_one, evB_cons, pk, peek, nth, put, bindL_nil, bindL_cons, bindR_nil, bindR_cons, frzL, dat_v, dat_l, Res.dat_v, Res.dat_l, okb, exb, List.map_cons, List.map_nil, toI_int, toB_bool, bin_add, bin_sub, cmp_lt, cmp_le, cmp_gt, cmp_ge, cmp_eqi, cmp_nei, cmp_in, cmp_nin, b1_int, b1_lenl, b1_lent, b1_tupl, b1_tupt, b1_lstt, b1_lstl, ix_t0, ix_t1, isi_tup, isi_int, isi_nb, ev_b1v, ev_b1x, ev_b1c, ev_b1f, ev_b1b, ev_b1n, ev_b1t, ev_b1l, ev_b1s, if_true, if_false, Bool.false_eq_true, Bool.not_true, Bool.not_false, Bool.true_eq_false, ev_kin, ev_kix, ex_kst, look_map, if_neg hm, if_pos hmu, Option.isSome_none, hixu, c1, c2, epk, ofI_snoc]
          refine yes_ok ⟨_, rfl, d ++ [x], new ++ [x], some (.v (.int x)), by simp [hd], ?_, ?_, ?_, ?_, fun y hy => ?_, by simp only [List.append_assoc]⟩
          · rw [← List.append_assoc, List.nodup_append]
            exact ⟨nd1, by simp, fun a ha b hb z => by rw [List.mem_singleton] at hb; rw [z, hb] at ha; exact hm ha⟩
          · rw [← List.append_assoc]
            intro v hvm
            rcases List.mem_append.mp hvm with z | z
            · exact hv1 v z
            · rw [List.mem_singleton.mp z]; exact ⟨hx.1, _, hdx⟩
          · rw [← List.append_assoc, List.pairwise_append]
            exact ⟨hs1, by simp, fun a ha b hb => by rw [List.mem_singleton.mp hb, hlx]; exact hb1 a ha⟩
          · rw [← List.append_assoc]
            intro v hvm
            rcases List.mem_append.mp hvm with z | z
            · exact hb1 v z
            · rw [List.mem_singleton.mp z, hlx]; exact Nat.le_refl _
          · rw [← List.append_assoc]
            rcases List.mem_append.mp hy with z | z
            · exact List.mem_append.mpr (.inl (hd1 y z))
            · exact List.mem_append.mpr (.inr z)
      · rintro r ⟨d, new, j5, hd, nd1, hv1, hs1, hb1, hd1, rfl⟩
        rw [List.append_nil] at hd
        have eq : pre ++ u :: post ++ new = (pre ++ [u]) ++ (post ++ new) := by simp
        rw [eq] at nd1 hv1 hs1 hb1 hd1 ⊢
        have epl : ((pre.length : Nat) : Int) + 1 = (((pre ++ [u]).length : Nat) : Int) := by
          rw [List.length_append]
          simp
        simp only [exs_cons, exs_nil, ex_set, ex_sef, ex_unp, ex_par, ex_app, ex_ext, ex_six, ex_exp, ex_ret, ex_retv, ex_iff, ex_rse, ex_frz, ev_var, ev_cst, ev_glb, ev_bin, ev_neg, ev_cmp, ev_chn, ev_bo, ev_nt, ev_ite, ev_tup, ev_lst, ev_ix, ev_slc, ev_call, ev_b2, ev_isi, evs_nil, evs_cons, evr_nil, evr_cons, evB_one, evB_cons, pk, peek, nth, put, bindL_nil, bindL_cons, bindR_nil, bindR_cons, frzL, dat_v, dat_l, Res.dat_v, Res.dat_l, okb, exb, List.map_cons, List.map_nil, toI_int, toB_bool, bin_add, bin_sub, cmp_lt, cmp_le, cmp_gt, cmp_ge, cmp_eqi, cmp_nei, cmp_in, cmp_nin, b1_int, b1_lenl, b1_lent, b1_tupl, b1_tupt, b1_lstt, b1_lstl, ix_t0, ix_t1, isi_tup, isi_int, isi_nb, ev_b1v, ev_b1x, ev_b1c, ev_b1f, ev_b1b, ev_b1n, ev_b1t, ev_b1l, ev_b1s, if_true, if_false, Bool.false_eq_true, Bool.not_true, Bool.not_false, Bool.true_eq_false, epl]
        refine yes_ok ⟨n - (pre ++ [u]).length, _, ?_, rfl, pre ++ [u], post ++ new, j5, nd1, hv1, ?_, hs1, ?_, ?_, rfl, rfl⟩
        · rw [List.length_append, List.length_cons] at hlen
          rw [List.length_append]
          simp only [List.length_cons, List.length_nil]
          omega
        · rw [← eq]
          exact List.mem_append.mpr (.inl h0)
        · intro y hy x hx ha
          rcases List.mem_append.mp hy with z | z
          · rw [← eq]
            exact List.mem_append.mpr (.inl (hcl y z x hx ha))
          · rw [List.mem_singleton.mp z] at ha
            exact hd1 x (by rw [hd]; exact mem_st.mpr ⟨hx, ha⟩)
        · intro u' hu' v hvm
          have h1 := hb1 v hvm
          have h2 : lv n es s u ≤ lv n es s u' := (List.pairwise_append.mp hs1).2.2 u (by simp) u' hu'
          omega
  · rintro mm r ⟨pre, post, j5, nd, hv, h0, hsrt, hcl, hb, _, rfl⟩ hf
    have hpost : post = [] := by
      cases post with
      | nil => rfl
      | cons u post =>
        have hlt : ((pre.length : Nat) : Int) < (((ofI (pre ++ u :: post)).length : Nat) : Int) := by
          rw [ofI_len, List.length_append, List.length_cons]
          omega
        simp only [exs_cons, exs_nil, ex_set, ex_sef, ex_unp, ex_par, ex_app, ex_ext, ex_six, ex_exp, ex_ret, ex_retv, ex_iff, ex_rse, ex_frz, ev_var, ev_cst, ev_glb, ev_bin, ev_neg, ev_cmp, ev_chn, ev_bo, ev_nt, ev_ite, ev_tup, ev_lst, ev_ix, ev_slc, ev_call, ev_b2, ev_isi, evs_nil, evs_cons, evr_nil, evr_cons, evB_one, evB_cons, pk, peek, nth, put, bindL_nil, bindL_cons, bindR_nil, bindR_cons, frzL, dat_v, dat_l, Res.dat_v, Res.dat_l, okb, exb, List.map_cons, List.map_nil, toI_int, toB_bool, bin_add, bin_sub, cmp_lt, cmp_le, cmp_gt, cmp_ge, cmp_eqi, cmp_nei, cmp_in, cmp_nin, b1_int, b1_lenl, b1_lent, b1_tupl, b1_tupt, b1_lstt, b1_lstl, ix_t0, ix_t1, isi_tup, isi_int, isi_nb, ev_b1v, ev_b1x, ev_b1c, ev_b1f, ev_b1b, ev_b1n, ev_b1t, ev_b1l, ev_b1s, if_true, if_false, Bool.false_eq_true, Bool.not_true, Bool.not_false, Bool.true_eq_false, hlt, decide_true] at hf
        cases hf
    subst hpost
    simp only [exs_cons, exs_nil, ex_set, ex_sef, ex_unp, ex_par, ex_app, ex_ext, ex_six, ex_exp, ex_ret, ex_retv, ex_iff, ex_rse, ex_frz, ev_var, ev_cst, ev_glb, ev_bin, ev_neg, ev_cmp, ev_chn, ev_bo, ev_nt, ev_ite, ev_tup, ev_lst, ev_ix, ev_slc, ev_call, ev_b2, ev_isi, evs_nil, evs_cons, evr_nil, evr_cons, evB_one, evB_cons, pk, peek, nth, put, bindL_nil, bindL_cons, bindR_nil, bindR_cons, frzL, dat_v, dat_l, Res.dat_v, Res.dat_l, okb, exb, List.map_cons, List.map_nil, toI_int, toB_bool, bin_add, bin_sub, cmp_lt, cmp_le, cmp_gt, cmp_ge, cmp_eqi, cmp_nei, cmp_in, cmp_nin, b1_int, b1_lenl, b1_lent, b1_tupl, b1_tupt, b1_lstt, b1_lstl, ix_t0, ix_t1, isi_tup, isi_int, isi_nb, ev_b1v, ev_b1x, ev_b1c, ev_b1f, ev_b1b, ev_b1n, ev_b1t, ev_b1l, ev_b1s, if_true, if_false, Bool.false_eq_true, Bool.not_true, Bool.not_false, Bool.true_eq_false]
    rw [comp_rgT (n := n) (e := fun p => td (dd n es s p)) (by omega) (by simp only [exs_cons, exs_nil, ex_set, ex_sef, ex_unp, ex_par, ex_app, ex_ext, ex_six, ex_exp, ex_ret, ex_retv, ex_iff, ex_rse, ex_frz, ev_var, ev_cst, ev_glb, ev_bin, ev_neg, ev_cmp, ev_chn, ev_bo, ev_nt, ev_ite, ev_tup, ev_lst, ev_ix, ev_slc, ev_call, ev_b2, ev_isi, evs_nil, evs_cons, evr_nil, evr_cons, evB_one, evB_cons, pk, peek, nth, put, bindL_nil, bindL_cons, bindR_nil, bindR_cons, frzL, dat_v, dat_l, Res.dat_v, Res.dat_l, okb, exb, List.map_cons, List.map_nil, toI_int, toB_bool, bin_add, bin_sub, cmp_lt, cmp_le, cmp_gt, cmp_ge, cmp_eqi, cmp_nei, cmp_in, cmp_nin, b1_int, b1_lenl, b1_lent, b1_tupl, b1_tupt, b1_lstt, b1_lstl, ix_t0, ix_t1, isi_tup, isi_int, isi_nb, ev_b1v, ev_b1x, ev_b1c, ev_b1f, ev_b1b, ev_b1n, ev_b1t, ev_b1l, ev_b1s, if_true, if_false, Bool.false_eq_true, Bool.not_true, Bool.not_false, Bool.true_eq_false, ix_wb0]) (fun p p0 p1 => ?_)]
    · simp only [exs_cons, exs_nil, ex_set, ex_sef, ex_unp, ex_par, ex_app, ex_ext, ex_six, ex_exp, ex_ret, ex_retv, ex_iff, ex_rse, ex_frz, ev_var, ev_cst, ev_glb, ev_bin, ev_neg, ev_cmp, ev_chn, ev_bo, ev_nt, ev_ite, ev_tup, ev_lst, ev_ix, ev_slc, ev_call, ev_b2, ev_isi, evs_nil, evs_cons, evr_nil, evr_cons, evB_one, evB_cons, pk, peek, nth, put, bindL_nil, bindL_cons, bindR_nil, bindR_cons, frzL, dat_v, dat_l, Res.dat_v, Res.dat_l, okb, exb, List.map_cons, List.map_nil, toI_int, toB_bool, bin_add, bin_sub, cmp_lt, cmp_le, cmp_gt, cmp_ge, cmp_eqi, cmp_nei, cmp_in, cmp_nin, b1_int, b1_lenl, b1_lent, b1_tupl, b1_tupt, b1_lstt, b1_lstl, ix_t0, ix_t1, isi_tup, isi_int, isi_nb, ev_b1v, ev_b1x, ev_b1c, ev_b1f, ev_b1b, ev_b1n, ev_b1t, ev_b1l, ev_b1s, if_true, if_false, Bool.false_eq_true, Bool.not_true, Bool.not_false, Bool.true_eq_false]
      exact yes_ok rfl
    · simp only [exs_cons, exs_nil, ex_set, ex_sef, ex_unp, ex_par, ex_app, ex_ext, ex_six, ex_exp, ex_ret, ex_retv, ex_iff, ex_rse, ex_frz, ev_var, ev_cst, ev_glb, ev_bin, ev_neg, ev_cmp, ev_chn, ev_bo, ev_nt, ev_ite, ev_tup, ev_lst, ev_ix, ev_slc, ev_call, ev_b2, ev_isi, evs_nil, evs_cons, evr_nil, evr_cons, evB_one, evB_cons, pk, peek, nth, put, bindL_nil, bindL_cons, bindR_nil, bindR_cons, frzL, dat_v, dat_l, Res.dat_v, Res.dat_l, okb, exb, List.map_cons, List.map_nil, toI_int, toB_bool, bin_add, bin_sub, cmp_lt, cmp_le, cmp_gt, cmp_ge, cmp_eqi, cmp_nei, cmp_in, cmp_nin, b1_int, b1_lenl, b1_lent, b1_tupl, b1_tupt, b1_lstt, b1_lstl, ix_t0, ix_t1, isi_tup, isi_int, isi_nb, ev_b1v, ev_b1x, ev_b1c, ev_b1f, ev_b1b, ev_b1n, ev_b1t, ev_b1l, ev_b1s, if_true, if_false, Bool.false_eq_true, Bool.not_true, Bool.not_false, Bool.true_eq_false, ev_kget, look_map]
      cases q : dd n es s p with
      | none =>
        have : p ∉ pre ++ [] := fun z => by
          obtain ⟨_, k, hk⟩ := hv p z
          rw [q] at hk
          cases hk
        rw [if_neg this]
        rfl
      | some k =>
        have hp : p ∈ pre ++ [] := by
          rcases all6 pre [] h0 hcl k p ⟨p0, p1⟩ q with z | ⟨u, hu, _⟩
          · simp [z]
          · simp at hu
        rw [if_pos hp, lv_of q]
        rfl
end
end HF

set_option Elab.async false
set_option linter.all false
set_option maxRecDepth 100000
set_option maxHeartbeats 4000000
/-! ### GL: first ways; the farthest -/
namespace HF
open PySem
section
variable {n : Nat} {es : List (Int × Int)}
theorem bt_sym {a : Int} (ha : In n a) : ∀ (k : Nat) (b : Int), In n b → bt n es none1 (fun x => decide (x = a)) k b = true → bt n es none1 (fun x => decide (x = b)) k a = true
  | 0, b, _, h => by
    have e : b = a := of_decide_eq_true h
    rw [e]
    exact decide_eq_true rfl
  | k + 1, b, hb, h => by
    rcases nx_iff.mp h with h | ⟨_, h2⟩
    · exact bt_up (bt_sym ha k b hb h)
    · obtain ⟨x, hx, hax, hxb⟩ := nb_iff.mp h2
      have i1 := bt_sym ha k x hx hxb
      have h1 : bt n es none1 (fun y => decide (y = b)) 1 x = true := nx_iff.mpr (.inr ⟨rfl, nb_iff.mpr ⟨b, hb, by rw [adj_symm]; exact hax, decide_eq_true rfl⟩⟩)
      have h3 : bt n es none1 (bt n es none1 (fun y => decide (y = b)) 1) k a = true := bt_le (fun p _ hp => by rw [of_decide_eq_true hp]; exact h1) (fun _ _ h => h) (fun _ _ h => h) k a ha i1
      rw [bt_shift, Nat.add_comm] at h3
      exact h3
theorem dd_sym {a b : Int} {k : Nat} (ha : In n a) (hb : In n b) (h : dd n es a b = some k) : dd n es b a = some k := by
  obtain ⟨h1, h2, h3⟩ := dd_some.mp h
  refine dd_some.mpr ⟨h1, bt_sym ha k b hb h2, fun j hj => ?_⟩
  cases q : bt n es none1 (fun x => decide (x = b)) j a with
  | false => rfl
  | true =>
    have := bt_sym hb j a ha q
    rw [h3 j hj] at this
    cases this
/-- on and on -/
theorem dd_tri {a b c : Int} {i j k : Nat} (hc : In n c) (h1 : dd n es a b = some i) (h2 : dd n es b c = some j) (h3 : dd n es a c = some k) : k ≤ i + j := by
  have h4 : bt n es none1 (bt n es none1 (fun x => decide (x = a)) i) j c = true := bt_le (fun p _ hp => by rw [of_decide_eq_true hp]; exact (dd_some.mp h1).2.1) (fun _ _ h => h) (fun _ _ h => h) j c hc (dd_some.mp h2).2.1
  rw [bt_shift] at h4
  refine Classical.byContradiction fun z => ?_
  have := (dd_some.mp h3).2.2 (i + j) (by omega)
  rw [h4] at this
  cases this
theorem dd_rc (hn : n ≤ 7) {s p : Int} (hp : In n p) : dd n es s p = none ↔ rc n es none1 s p = false := by
  constructor
  · intro h
    exact (ft_none' hn hp).mp h 7
  · intro h
    refine (ft_none' hn hp).mpr fun k => ?_
    cases q : bt n es none1 (fun x => decide (x = s)) k p with
    | false => rfl
    | true =>
      have := rc_of hn hp q
      rw [h] at this
      cases this
theorem dd_ex (hn : n ≤ 7) {s p : Int} (hp : In n p) (h : rc n es none1 s p = true) : ∃ k, dd n es s p = some k := by
  cases q : dd n es s p with
  | none => rw [(dd_rc hn hp).mp q] at h; cases h
  | some k => exact ⟨k, rfl⟩
end
theorem td_some (k : Nat) : td (some k) = .int ((k : Nat) : Int) := rfl
theorem ix_last {l : List Int} {x : Int} : ixD (.list (ofI (l ++ [x]))) (.int (-1)) = .ok (.int x) := by
  show atD (ofI (l ++ [x])) (-1) = _
  unfold atD ixOf
  rw [if_neg (by omega), ofI_len, List.length_append, List.length_cons, List.length_nil, if_pos (by omega)]
  have e : ((-1 : Int) + ((l.length + (0 + 1) : Nat) : Int)).toNat = l.length := by omega
  rw [e]
  simp only [nthD_eq]
  have : (ofI (l ++ [x]))[l.length]? = some (.int x) := by simp [ofI]
  rw [this]
section
variable {T : List Fn} {G : List PyData} {n : Nat} {es : List (Int × Int)}
theorem first_way_ok (t : Looks T G) (h5 : nthF T 5 = some u_far_from) (h23 : nthF T 23 = some u_look_place) (h69 : nthF T 69 = some u_first_way) (w : WF n es) {s p : Int} (hs : In n s) (hp : In n p) (hr : rc n es none1 s p = true) (m : Nat) :
    ∃ l : List Int, (∀ x ∈ l, In n x) ∧ l.map (dd n es s) = (List.range l.length).map some ∧ l.length ≤ 8 ∧ cal T G (m + 5) 69 [.v (wb n es), .v (.int s), .v (.int p)] = .ok (.l (ofI l)) := by
  have hhi := w.hi
  obtain ⟨L, hL⟩ := dd_ex hhi hp hr
  have hL8 := (dd_some.mp hL).1
  have main : Yes (cal T G (m + 5) 69 [.v (wb n es), .v (.int s), .v (.int p)]) fun x => ∃ l : List Int, (∀ x ∈ l, In n x) ∧ l.map (dd n es s) = (List.range l.length).map some ∧ l.length ≤ 8 ∧ x = .l (ofI l) := by
    rw [cal_eq h69 rfl]
    show Yes ((exs (cal T G (m + 4)) G 1000 u_first_way.body [some (.v (wb n es)), some (.v (.int s)), some (.v (.int p)), none, none, none]).bind _) _
    have c3 := look_web_ok t w m
    have c23 := look_place_ok (es := es) t h23 hs (m + 2)
    have c23' := look_place_ok (es := es) t h23 hp (m + 2)
    have c5 := far_from_ok t h5 w hp (m + 2)
    have hsym := dd_sym hs hp hL
    have hix : ∀ x, In n x → ixD (.list (tl n es none1 fun q => decide (q = p))) (.int x) = .ok (td (dd n es p x)) := fun x hx => ix_tl hx
    unfold u_first_way
    dsimp only
    simp only [exs_cons, exs_nil, ex_set, ex_sef, ex_unp, ex_par, ex_app, ex_ext, ex_six, ex_exp, ex_ret, ex_retv, ex_iff, ex_rse, ex_frz, ev_var, ev_cst, ev_glb, ev_bin, ev_neg, ev_cmp, ev_chn, ev_bo, ev_nt, ev_ite, ev_tup, ev_lst, ev_ix, ev_slc, ev_call, ev_b2, ev_isi, evs_nil, evs_cons, evr_nil, evr_cons, evB_one, evB_cons, pk, peek, nth, put, bindL_nil, bindL_cons, bindR_nil, bindR_cons, frzL, dat_v, dat_l, Res.dat_v, Res.dat_l, okb, exb, List.map_cons, List.map_nil, toI_int, toB_bool, bin_add, bin_sub, cmp_lt, cmp_le, cmp_gt, cmp_ge, cmp_eqi, cmp_nei, cmp_in, cmp_nin, b1_int, b1_lenl, b1_lent, b1_tupl, b1_tupt, b1_lstt, b1_lstl, ix_t0, ix_t1, isi_tup, isi_int, isi_nb, ev_b1v, ev_b1x, ev_b1c, ev_b1f, ev_b1b, ev_b1n, ev_b1t, ev_b1l, ev_b1s, if_true, if_false, Bool.false_eq_true, Bool.not_true, Bool.not_false, Bool.true_eq_false, c3, c23, c23', c5, hix s hs, hsym, td, cmp_is, isNoneD, O.bind_assoc]
    have e1 : [PyData.int s] = ofI ([] ++ [s]) := rfl
    rw [e1]
    refine whl_yes (fun mm r => ∃ (l : List Int) (x : Int) (j5 : Option Res), (∀ y ∈ l ++ [x], In n y) ∧ (l ++ [x]).map (dd n es s) = (List.range (l ++ [x]).length).map some ∧ dd n es p x = some mm ∧ l.length + mm = L ∧
      r = [some (.v (wb n es)), some (.v (.int s)), some (.v (.int p)), some (.v (.list (tl n es none1 fun q => decide (q = p)))), some (.l (ofI (l ++ [x]))), j5]) L (by omega) ⟨[], s, none, fun y hy => by rw [List.mem_singleton.mp hy]; exact hs, by simp [dd_self], hsym, by simp, rfl⟩ ?_ ?_
    · rintro mm r ⟨l, x, j5, hin, hmp, hdx, hlm, rfl⟩
      have hx := hin x (by simp)
      have hdsx : dd n es s x = some l.length := by
        have := congrArg (fun z => z[l.length]?) hmp
        simpa using this
      cases mm with
      | zero =>
        left
        have e := dd_zero hdx
        subst e
        have e2 : ((x == x) : Bool) = true := by simp
        simp only [exs_cons, exs_nil, ex_set, ex_sef, ex_unp, ex_par, ex_app, ex_ext, ex_six, ex_exp, ex_ret, ex_retv, ex_iff, ex_rse, ex_frz, ev_var, ev_cst, ev_glb, ev_bin, ev_neg, ev_cmp, ev_chn, ev_bo, ev_nt, ev_ite, ev_tup, ev_lst, ev_ix, ev_slc, ev_call, ev_b2, ev_isi, evs_nil, evs_cons, evr_nil, evr_cons, evB_one, evB_cons, pk, peek, nth, put, bindL_nil, bindL_cons, bindR_nil, bindR_cons, frzL, dat_v, dat_l, Res.dat_v, Res.dat_l, okb, exb, List.map_cons, List.map_nil, toI_int, toB_bool, bin_add, bin_sub, cmp_lt, cmp_le, cmp_gt, cmp_ge, cmp_eqi, cmp_nei, cmp_in, cmp_nin, b1_int, b1_lenl, b1_lent, b1_tupl, b1_tupt, b1_lstt, b1_lstl, ix_t0, ix_t1, isi_tup, isi_int, isi_nb, ev_b1v, ev_b1x, ev_b1c, ev_b1f, ev_b1b, ev_b1n, ev_b1t, ev_b1l, ev_b1s, if_true, if_false, Bool.false_eq_true, Bool.not_true, Bool.not_false, Bool.true_eq_false, ix_last, e2]
      | succ k =>
        right
        have hne : (x == p) = false := by
          refine beq_eq_false_iff_ne.mpr fun e => ?_
          rw [e, dd_self] at hdx
          cases hdx
        refine ⟨by simp only [exs_cons, exs_nil, ex_set, ex_sef, ex_unp, ex_par, ex_app, ex_ext, ex_six, ex_exp, ex_ret, ex_retv, ex_iff, ex_rse, ex_frz, ev_var, ev_cst, ev_glb, ev_bin, ev_neg, ev_cmp, ev_chn, ev_bo, ev_nt, ev_ite, ev_tup, ev_lst, ev_ix, ev_slc, ev_call, ev_b2, ev_isi, evs_nil, evs_cons, evr_nil, evr_cons, evB_one, evB_cons, pk, peek, nth, put, bindL_nil, bindL_cons, bindR_nil, bindR_cons, frzL, dat_v, dat_l, Res.dat_v, Res.dat_l, okb, exb, List.map_cons, List.map_nil, toI_int, toB_bool, bin_add, bin_sub, cmp_lt, cmp_le, cmp_gt, cmp_ge, cmp_eqi, cmp_nei, cmp_in, cmp_nin, b1_int, b1_lenl, b1_lent, b1_tupl, b1_tupt, b1_lstt, b1_lstl, ix_t0, ix_t1, isi_tup, isi_int, isi_nb, ev_b1v, ev_b1x, ev_b1c, ev_b1f, ev_b1b, ev_b1n, ev_b1t, ev_b1l, ev_b1s, if_true, if_false, Bool.false_eq_true, Bool.not_true, Bool.not_false, Bool.true_eq_false, ix_last, hne], ?_⟩
        have hbc := beside_ok t w hx (m + 3)
        simp only [exs_cons, exs_nil, ex_set, ex_sef, ex_unp, ex_par, ex_app, ex_ext, ex_six, ex_exp, ex_ret, ex_retv, ex_iff, ex_rse, ex_frz, ev_var, ev_cst, ev_glb, ev_bin, ev_neg, ev_cmp, ev_chn, ev_bo, ev_nt, ev_ite, ev_tup, ev_lst, ev_ix, ev_slc, ev_call, ev_b2, ev_isi, evs_nil, evs_cons, evr_nil, evr_cons, evB_one, evB_cons, pk, peek, nth, put, bindL_nil, bindL_cons, bindR_nil, bindR_cons, frzL, dat_v, dat_l, Res.dat_v, Res.dat_l, okb, exb, List.map_cons, List.map_nil, toI_int, toB_bool, bin_add, bin_sub, cmp_lt, cmp_le, cmp_gt, cmp_ge, cmp_eqi, cmp_nei, cmp_in, cmp_nin, b1_int, b1_lenl, b1_lent, b1_tupl, b1_tupt, b1_lstt, b1_lstl, ix_t0, ix_t1, isi_tup, isi_int, isi_nb, ev_b1v, ev_b1x, ev_b1c, ev_b1f, ev_b1b, ev_b1n, ev_b1t, ev_b1l, ev_b1s, if_true, if_false, Bool.false_eq_true, Bool.not_true, Bool.not_false, Bool.true_eq_false]
        rw [comp_l (l := st n (adj es x)) (c := fun y => decide (dd n es p y = some k)) (e := fun y => .int y) ?_ (fun y hy => ?_) (fun y _ _ => by simp only [exs_cons, exs_nil, ex_set, ex_sef, ex_unp, ex_par, ex_app, ex_ext, ex_six, ex_exp, ex_ret, ex_retv, ex_iff, ex_rse, ex_frz, ev_var, ev_cst, ev_glb, ev_bin, ev_neg, ev_cmp, ev_chn, ev_bo, ev_nt, ev_ite, ev_tup, ev_lst, ev_ix, ev_slc, ev_call, ev_b2, ev_isi, evs_nil, evs_cons, evr_nil, evr_cons, evB_one, evB_cons, pk, peek, nth, put, bindL_nil, bindL_cons, bindR_nil, bindR_cons, frzL, dat_v, dat_l, Res.dat_v, Res.dat_l, okb, exb, List.map_cons, List.map_nil, toI_int, toB_bool, bin_add, bin_sub, cmp_lt, cmp_le, cmp_gt, cmp_ge, cmp_eqi, cmp_nei, cmp_in, cmp_nin, b1_int, b1_lenl, b1_lent, b1_tupl, b1_tupt, b1_lstt, b1_lstl, ix_t0, ix_t1, isi_tup, isi_int, isi_nb, ev_b1v, ev_b1x, ev_b1c, ev_b1f, ev_b1b, ev_b1n, ev_b1t, ev_b1l, ev_b1s, if_true, if_false, Bool.false_eq_true, Bool.not_true, Bool.not_false, Bool.true_eq_false])]
        · have hne2 : (st n (adj es x)).filter (fun y => decide (dd n es p y = some k)) ≠ [] := fun hnil => by
            obtain ⟨z, hz, ha, hdz⟩ := dd_pre hdx
            have : z ∈ (st n (adj es x)).filter (fun y => decide (dd n es p y = some k)) := List.mem_filter.mpr ⟨mem_st.mpr ⟨hz, ha⟩, decide_eq_true hdz⟩
            rw [hnil] at this
            simp at this
          obtain ⟨y, hm1, ⟨y', hy', e'⟩, _⟩ := min_ok (g := fun y : Int => y) hne2
          subst e'
          obtain ⟨hy1, hy2⟩ := List.mem_filter.mp hy'
          obtain ⟨hyn, hya⟩ := mem_st.mp hy1
          have hdy := of_decide_eq_true hy2
          have c1 : (ofI (l ++ [x])).length < cap := by
            rw [ofI_len, List.length_append]
            simp only [List.length_cons, List.length_nil]
            unfold cap
            omega
          have hdsy : dd n es s y' = some (l.length + 1) := by
            obtain ⟨j, hj, hdj⟩ := dd_nb hhi hx hyn hya hdsx
            have := dd_tri hp hdj (dd_sym hp hyn hdy) hL
            rw [hdj]
            congr 1
            omega
          simp only [exs_cons, exs_nil, ex_set, ex_sef, ex_unp, ex_par, ex_app, ex_ext, ex_six, ex_exp, ex_ret, ex_retv, ex_iff, ex_rse, ex_frz, ev_var, ev_cst, ev_glb, ev_bin, ev_neg, ev_cmp, ev_chn, ev_bo, ev_nt, ev_ite, ev_tup, ev_lst, ev_ix, ev_slc, ev_call, ev_b2, ev_isi, evs_nil, evs_cons, evr_nil, evr_cons, evB_one, evB_cons, pk, peek, nth, put, bindL_nil, bindL_cons, bindR_nil, bindR_cons, frzL, dat_v, dat_l, Res.dat_v, Res.dat_l, okb, exb, List.map_cons, List.map_nil, toI_int, toB_bool, bin_add, bin_sub, cmp_lt, cmp_le, cmp_gt, cmp_ge, cmp_eqi, cmp_nei, cmp_in, cmp_nin, b1_int, b1_lenl, b1_lent, b1_tupl, b1_tupt, b1_lstt, b1_lstl, ix_t0, ix_t1, isi_tup, isi_int, isi_nb, ev_b1v, ev_b1x, ev_b1c, ev_b1f, ev_b1b, ev_b1n, ev_b1t, ev_b1l, ev_b1s, if_true, if_false, Bool.false_eq_true, Bool.not_true, Bool.not_false, Bool.true_eq_false, hm1, c1, ofI_snoc]
          refine yes_ok ⟨k, _, by omega, rfl, l ++ [x], y', _, fun z hz => ?_, ?_, hdy, by rw [List.length_append]; simp only [List.length_cons, List.length_nil]; omega, rfl⟩
          · rcases List.mem_append.mp hz with q | q
            · exact hin z q
            · rw [List.mem_singleton.mp q]; exact hyn
          · rw [List.map_append, hmp]
            simp only [List.length_append, List.length_cons, List.length_nil, List.map_cons, List.map_nil, hdsy, List.range_succ, List.map_append]
        · rw [srcV_call]
          simp only [exs_cons, exs_nil, ex_set, ex_sef, ex_unp, ex_par, ex_app, ex_ext, ex_six, ex_exp, ex_ret, ex_retv, ex_iff, ex_rse, ex_frz, ev_var, ev_cst, ev_glb, ev_bin, ev_neg, ev_cmp, ev_chn, ev_bo, ev_nt, ev_ite, ev_tup, ev_lst, ev_ix, ev_slc, ev_call, ev_b2, ev_isi, evs_nil, evs_cons, evr_nil, evr_cons, evB_one, evB_cons, pk, peek, nth, put, bindL_nil, bindL_cons, bindR_nil, bindR_cons, frzL, dat_v, dat_l, Res.dat_v, Res.dat_l, okb, exb, List.map_cons, List.map_nil, toI_int, toB_bool, bin_add, bin_sub, cmp_lt, cmp_le, cmp_gt, cmp_ge, cmp_eqi, cmp_nei, cmp_in, cmp_nin, b1_int, b1_lenl, b1_lent, b1_tupl, b1_tupt, b1_lstt, b1_lstl, ix_t0, ix_t1, isi_tup, isi_int, isi_nb, ev_b1v, ev_b1x, ev_b1c, ev_b1f, ev_b1b, ev_b1n, ev_b1t, ev_b1l, ev_b1s, if_true, if_false, Bool.false_eq_true, Bool.not_true, Bool.not_false, Bool.true_eq_false, ix_last, hbc]
          rfl
        · have hyn := (mem_st.mp hy).1
          have e3 : (((k + 1 : Nat) : Int) - 1) = ((k : Nat) : Int) := by omega
          simp only [exs_cons, exs_nil, ex_set, ex_sef, ex_unp, ex_par, ex_app, ex_ext, ex_six, ex_exp, ex_ret, ex_retv, ex_iff, ex_rse, ex_frz, ev_var, ev_cst, ev_glb, ev_bin, ev_neg, ev_cmp, ev_chn, ev_bo, ev_nt, ev_ite, ev_tup, ev_lst, ev_ix, ev_slc, ev_call, ev_b2, ev_isi, evs_nil, evs_cons, evr_nil, evr_cons, evB_one, evB_cons, pk, peek, nth, put, bindL_nil, bindL_cons, bindR_nil, bindR_cons, frzL, dat_v, dat_l, Res.dat_v, Res.dat_l, okb, exb, List.map_cons, List.map_nil, toI_int, toB_bool, bin_add, bin_sub, cmp_lt, cmp_le, cmp_gt, cmp_ge, cmp_eqi, cmp_nei, cmp_in, cmp_nin, b1_int, b1_lenl, b1_lent, b1_tupl, b1_tupt, b1_lstt, b1_lstl, ix_t0, ix_t1, isi_tup, isi_int, isi_nb, ev_b1v, ev_b1x, ev_b1c, ev_b1f, ev_b1b, ev_b1n, ev_b1t, ev_b1l, ev_b1s, if_true, if_false, Bool.false_eq_true, Bool.not_true, Bool.not_false, Bool.true_eq_false, ix_last, hix y hyn, hix x hx, hdx, td_some, e3, cmp_tdi]
    · rintro mm r ⟨l, x, j5, hin, hmp, hdx, hlm, rfl⟩ hf
      simp only [exs_cons, exs_nil, ex_set, ex_sef, ex_unp, ex_par, ex_app, ex_ext, ex_six, ex_exp, ex_ret, ex_retv, ex_iff, ex_rse, ex_frz, ev_var, ev_cst, ev_glb, ev_bin, ev_neg, ev_cmp, ev_chn, ev_bo, ev_nt, ev_ite, ev_tup, ev_lst, ev_ix, ev_slc, ev_call, ev_b2, ev_isi, evs_nil, evs_cons, evr_nil, evr_cons, evB_one, evB_cons, pk, peek, nth, put, bindL_nil, bindL_cons, bindR_nil, bindR_cons, frzL, dat_v, dat_l, Res.dat_v, Res.dat_l, okb, exb, List.map_cons, List.map_nil, toI_int, toB_bool, bin_add, bin_sub, cmp_lt, cmp_le, cmp_gt, cmp_ge, cmp_eqi, cmp_nei, cmp_in, cmp_nin, b1_int, b1_lenl, b1_lent, b1_tupl, b1_tupt, b1_lstt, b1_lstl, ix_t0, ix_t1, isi_tup, isi_int, isi_nb, ev_b1v, ev_b1x, ev_b1c, ev_b1f, ev_b1b, ev_b1n, ev_b1t, ev_b1l, ev_b1s, if_true, if_false, Bool.false_eq_true, Bool.not_true, Bool.not_false, Bool.true_eq_false]
      refine yes_ok ⟨l ++ [x], hin, hmp, ?_, rfl⟩
      rw [List.length_append]
      simp only [List.length_cons, List.length_nil]
      omega
  obtain ⟨x, e, l, h1, h2, h3, rfl⟩ := main
  exact ⟨l, h1, h2, h3, e⟩
/-- the farthest two, and how far -/
def Fst (n : Nat) (es : List (Int × Int)) (a b : Int) (D : Nat) : Prop := (∀ i j, In n i → In n j → i < j → ∀ k, dd n es i j = some k → k ≤ D) ∧ In n a ∧ In n b ∧ dd n es a b = some D
theorem farthest_ok (t : Looks T G) (h5 : nthF T 5 = some u_far_from) (h70 : nthF T 70 = some u_farthest) (w : WF n es) (m : Nat) : ∃ (a b : Int) (D : Nat), Fst n es a b D ∧ cal T G (m + 5) 70 [.v (wb n es)] = .ok (.v (.tuple [.int a, .int b, .int (D : Nat)])) := by
  have hhi := w.hi
  have hlo := w.lo
  have main : Yes (cal T G (m + 5) 70 [.v (wb n es)]) fun x => ∃ (a b : Int) (D : Nat), Fst n es a b D ∧ x = .v (.tuple [.int a, .int b, .int (D : Nat)]) := by
    rw [cal_eq h70 rfl]
    show Yes ((exs (cal T G (m + 4)) G 1000 u_farthest.body [some (.v (wb n es)), none, none, none, none]).bind _) _
    unfold u_farthest
    dsimp only
    simp only [exs_cons, exs_nil, ex_set, ex_sef, ex_unp, ex_par, ex_app, ex_ext, ex_six, ex_exp, ex_ret, ex_retv, ex_iff, ex_rse, ex_frz, ev_var, ev_cst, ev_glb, ev_bin, ev_neg, ev_cmp, ev_chn, ev_bo, ev_nt, ev_ite, ev_tup, ev_lst, ev_ix, ev_slc, ev_call, ev_b2, ev_isi, evs_nil, evs_cons, evr_nil, evr_cons, evB_one, evB_cons, pk, peek, nth, put, bindL_nil, bindL_cons, bindR_nil, bindR_cons, frzL, dat_v, dat_l, Res.dat_v, Res.dat_l, okb, exb, List.map_cons, List.map_nil, toI_int, toB_bool, bin_add, bin_sub, cmp_lt, cmp_le, cmp_gt, cmp_ge, cmp_eqi, cmp_nei, cmp_in, cmp_nin, b1_int, b1_lenl, b1_lent, b1_tupl, b1_tupt, b1_lstt, b1_lstl, ix_t0, ix_t1, isi_tup, isi_int, isi_nb, ev_b1v, ev_b1x, ev_b1c, ev_b1f, ev_b1b, ev_b1n, ev_b1t, ev_b1l, ev_b1s, if_true, if_false, Bool.false_eq_true, Bool.not_true, Bool.not_false, Bool.true_eq_false, look_web_ok t w m, O.bind_assoc]
    refine fr_yes (enc := .int) (xs := rg n) (fun xs r => ∃ (d : List Int) (a b : Int) (D : Nat) (j2 j3 j4 : Option Res), d ++ xs = rg n ∧ (∀ i ∈ d, ∀ j, In n j → i < j → ∀ k, dd n es i j = some k → k ≤ D) ∧ In n a ∧ In n b ∧ dd n es a b = some D ∧
      r = [some (.v (wb n es)), some (.v (.tuple [.int a, .int b, .int (D : Nat)])), j2, j3, j4]) (its_rng1 (k := n) (by omega) (by simp only [exs_cons, exs_nil, ex_set, ex_sef, ex_unp, ex_par, ex_app, ex_ext, ex_six, ex_exp, ex_ret, ex_retv, ex_iff, ex_rse, ex_frz, ev_var, ev_cst, ev_glb, ev_bin, ev_neg, ev_cmp, ev_chn, ev_bo, ev_nt, ev_ite, ev_tup, ev_lst, ev_ix, ev_slc, ev_call, ev_b2, ev_isi, evs_nil, evs_cons, evr_nil, evr_cons, evB_one, evB_cons, pk, peek, nth, put, bindL_nil, bindL_cons, bindR_nil, bindR_cons, frzL, dat_v, dat_l, Res.dat_v, Res.dat_l, okb, exb, List.map_cons, List.map_nil, toI_int, toB_bool, bin_add, bin_sub, cmp_lt, cmp_le, cmp_gt, cmp_ge, cmp_eqi, cmp_nei, cmp_in, cmp_nin, b1_int, b1_lenl, b1_lent, b1_tupl, b1_tupt, b1_lstt, b1_lstl, ix_t0, ix_t1, isi_tup, isi_int, isi_nb, ev_b1v, ev_b1x, ev_b1c, ev_b1f, ev_b1b, ev_b1n, ev_b1t, ev_b1l, ev_b1s, if_true, if_false, Bool.false_eq_true, Bool.not_true, Bool.not_false, Bool.true_eq_false, ix_wb0])) ⟨[], 0, 0, 0, _, _, _, rfl, by simp, ⟨by omega, by omega⟩, ⟨by omega, by omega⟩, dd_self, rfl⟩ ?_ ?_
    · rintro x xs r ⟨d, a, b, D, j2, j3, j4, hd, hall, ha, hb, hab, rfl⟩
      have hx : In n x := mem_rg.mp (by rw [← hd]; simp)
      have c5 := far_from_ok t h5 w hx (m + 2)
      have hix : ∀ y, In n y → ixD (.list (tl n es none1 fun q => decide (q = x))) (.int y) = .ok (td (dd n es x y)) := fun y hy => ix_tl hy
      refine ⟨_, rfl, ?_⟩
      simp only [exs_cons, exs_nil, ex_set, ex_sef, ex_unp, ex_par, ex_app, ex_ext, ex_six, ex_exp, ex_ret, ex_retv, ex_iff, ex_rse, ex_frz, ev_var, ev_cst, ev_glb, ev_bin, ev_neg, ev_cmp, ev_chn, ev_bo, ev_nt, ev_ite, ev_tup, ev_lst, ev_ix, ev_slc, ev_call, ev_b2, ev_isi, evs_nil, evs_cons, evr_nil, evr_cons, evB_one, evB_cons, pk, peek, nth, put, bindL_nil, bindL_cons, bindR_nil, bindR_cons, frzL, dat_v, dat_l, Res.dat_v, Res.dat_l, okb, exb, List.map_cons, List.map_nil, toI_int, toB_bool, bin_add, bin_sub, cmp_lt, cmp_le, cmp_gt, cmp_ge, cmp_eqi, cmp_nei, cmp_in, cmp_nin, b1_int, b1_lenl, b1_lent, b1_tupl, b1_tupt, b1_lstt, b1_lstl, ix_t0, ix_t1, isi_tup, isi_int, isi_nb, ev_b1v, ev_b1x, ev_b1c, ev_b1f, ev_b1b, ev_b1n, ev_b1t, ev_b1l, ev_b1s, if_true, if_false, Bool.false_eq_true, Bool.not_true, Bool.not_false, Bool.true_eq_false, c5]
      refine fr_yes (enc := fun j : Nat => PyData.int (x + 1 + Int.ofNat j)) (xs := List.range ((n : Int) - (x + 1)).toNat) (fun ys r => ∃ (e : List Nat) (a b : Int) (D : Nat) (j4 : Option Res), e ++ ys = List.range ((n : Int) - (x + 1)).toNat ∧ (∀ i ∈ d, ∀ j, In n j → i < j → ∀ k, dd n es i j = some k → k ≤ D) ∧ (∀ i ∈ e, ∀ k, dd n es x (x + 1 + Int.ofNat i) = some k → k ≤ D) ∧ In n a ∧ In n b ∧ dd n es a b = some D ∧
        r = [some (.v (wb n es)), some (.v (.tuple [.int a, .int b, .int (D : Nat)])), some (.v (.int x)), some (.v (.list (tl n es none1 fun q => decide (q = x)))), j4]) (its_rng2 (by simp only [exs_cons, exs_nil, ex_set, ex_sef, ex_unp, ex_par, ex_app, ex_ext, ex_six, ex_exp, ex_ret, ex_retv, ex_iff, ex_rse, ex_frz, ev_var, ev_cst, ev_glb, ev_bin, ev_neg, ev_cmp, ev_chn, ev_bo, ev_nt, ev_ite, ev_tup, ev_lst, ev_ix, ev_slc, ev_call, ev_b2, ev_isi, evs_nil, evs_cons, evr_nil, evr_cons, evB_one, evB_cons, pk, peek, nth, put, bindL_nil, bindL_cons, bindR_nil, bindR_cons, frzL, dat_v, dat_l, Res.dat_v, Res.dat_l, okb, exb, List.map_cons, List.map_nil, toI_int, toB_bool, bin_add, bin_sub, cmp_lt, cmp_le, cmp_gt, cmp_ge, cmp_eqi, cmp_nei, cmp_in, cmp_nin, b1_int, b1_lenl, b1_lent, b1_tupl, b1_tupt, b1_lstt, b1_lstl, ix_t0, ix_t1, isi_tup, isi_int, isi_nb, ev_b1v, ev_b1x, ev_b1c, ev_b1f, ev_b1b, ev_b1n, ev_b1t, ev_b1l, ev_b1s, if_true, if_false, Bool.false_eq_true, Bool.not_true, Bool.not_false, Bool.true_eq_false]) (by simp only [exs_cons, exs_nil, ex_set, ex_sef, ex_unp, ex_par, ex_app, ex_ext, ex_six, ex_exp, ex_ret, ex_retv, ex_iff, ex_rse, ex_frz, ev_var, ev_cst, ev_glb, ev_bin, ev_neg, ev_cmp, ev_chn, ev_bo, ev_nt, ev_ite, ev_tup, ev_lst, ev_ix, ev_slc, ev_call, ev_b2, ev_isi, evs_nil, evs_cons, evr_nil, evr_cons, evB_one, evB_cons, pk, peek, nth, put, bindL_nil, bindL_cons, bindR_nil, bindR_cons, frzL, dat_v, dat_l, Res.dat_v, Res.dat_l, okb, exb, List.map_cons, List.map_nil, toI_int, toB_bool, bin_add, bin_sub, cmp_lt, cmp_le, cmp_gt, cmp_ge, cmp_eqi, cmp_nei, cmp_in, cmp_nin, b1_int, b1_lenl, b1_lent, b1_tupl, b1_tupt, b1_lstt, b1_lstl, ix_t0, ix_t1, isi_tup, isi_int, isi_nb, ev_b1v, ev_b1x, ev_b1c, ev_b1f, ev_b1b, ev_b1n, ev_b1t, ev_b1l, ev_b1s, if_true, if_false, Bool.false_eq_true, Bool.not_true, Bool.not_false, Bool.true_eq_false, ix_wb0]) (by omega) (by omega) (by omega) (by omega)) ⟨[], a, b, D, _, rfl, hall, by simp, ha, hb, hab, rfl⟩ ?_ ?_
      · rintro y ys r ⟨e, a, b, D, j4, he, hall, hex, ha, hb, hab, rfl⟩
        have hy := List.mem_range.mp (show y ∈ List.range ((n : Int) - (x + 1)).toNat by rw [← he]; simp)
        have hof : Int.ofNat y = (y : Int) := rfl
        have hyn : In n (x + 1 + Int.ofNat y) := ⟨by omega, by omega⟩
        have ix2 : ixD (.tuple [.int a, .int b, .int (D : Nat)]) (.int 2) = .ok (.int (D : Nat)) := at_ok (xs := [.int a, .int b, .int (D : Nat)]) (i := 2) (d := .int (D : Nat)) rfl
        refine ⟨_, rfl, ?_⟩
        simp only [exs_cons, exs_nil, ex_set, ex_sef, ex_unp, ex_par, ex_app, ex_ext, ex_six, ex_exp, ex_ret, ex_retv, ex_iff, ex_rse, ex_frz, ev_var, ev_cst, ev_glb, ev_bin, ev_neg, ev_cmp, ev_chn, ev_bo, ev_nt, ev_ite, ev_tup, ev_lst, ev_ix, ev_slc, ev_call, ev_b2, ev_isi, evs_nil, evs_cons, evr_nil, evr_cons, evB_one, evB_cons, pk, peek, nth, put, bindL_nil, bindL_cons, bindR_nil, bindR_cons, frzL, dat_v, dat_l, Res.dat_v, Res.dat_l, okb, exb, List.map_cons, List.map_nil, toI_int, toB_bool, bin_add, bin_sub, cmp_lt, cmp_le, cmp_gt, cmp_ge, cmp_eqi, cmp_nei, cmp_in, cmp_nin, b1_int, b1_lenl, b1_lent, b1_tupl, b1_tupt, b1_lstt, b1_lstl, ix_t0, ix_t1, isi_tup, isi_int, isi_nb, ev_b1v, ev_b1x, ev_b1c, ev_b1f, ev_b1b, ev_b1n, ev_b1t, ev_b1l, ev_b1s, if_true, if_false, Bool.false_eq_true, Bool.not_true, Bool.not_false, Bool.true_eq_false, hix _ hyn, cmp_isn, none_td]
        cases hq : dd n es x (x + 1 + Int.ofNat y) with
        | none =>
          simp only [exs_cons, exs_nil, ex_set, ex_sef, ex_unp, ex_par, ex_app, ex_ext, ex_six, ex_exp, ex_ret, ex_retv, ex_iff, ex_rse, ex_frz, ev_var, ev_cst, ev_glb, ev_bin, ev_neg, ev_cmp, ev_chn, ev_bo, ev_nt, ev_ite, ev_tup, ev_lst, ev_ix, ev_slc, ev_call, ev_b2, ev_isi, evs_nil, evs_cons, evr_nil, evr_cons, evB_one, evB_cons, pk, peek, nth, put, bindL_nil, bindL_cons, bindR_nil, bindR_cons, frzL, dat_v, dat_l, Res.dat_v, Res.dat_l, okb, exb, List.map_cons, List.map_nil, toI_int, toB_bool, bin_add, bin_sub, cmp_lt, cmp_le, cmp_gt, cmp_ge, cmp_eqi, cmp_nei, cmp_in, cmp_nin, b1_int, b1_lenl, b1_lent, b1_tupl, b1_tupt, b1_lstt, b1_lstl, ix_t0, ix_t1, isi_tup, isi_int, isi_nb, ev_b1v, ev_b1x, ev_b1c, ev_b1f, ev_b1b, ev_b1n, ev_b1t, ev_b1l, ev_b1s, if_true, if_false, Bool.false_eq_true, Bool.not_true, Bool.not_false, Bool.true_eq_false, Option.isNone_none]
          refine yes_ok ⟨_, rfl, e ++ [y], a, b, D, _, by simp [he], hall, fun i hi k hk => ?_, ha, hb, hab, rfl⟩
          rcases List.mem_append.mp hi with z | z
          · exact hex i z k hk
          · rw [List.mem_singleton.mp z, hq] at hk; cases hk
        | some k0 =>
          simp only [exs_cons, exs_nil, ex_set, ex_sef, ex_unp, ex_par, ex_app, ex_ext, ex_six, ex_exp, ex_ret, ex_retv, ex_iff, ex_rse, ex_frz, ev_var, ev_cst, ev_glb, ev_bin, ev_neg, ev_cmp, ev_chn, ev_bo, ev_nt, ev_ite, ev_tup, ev_lst, ev_ix, ev_slc, ev_call, ev_b2, ev_isi, evs_nil, evs_cons, evr_nil, evr_cons, evB_one, evB_cons, pk, peek, nth, put, bindL_nil, bindL_cons, bindR_nil, bindR_cons, frzL, dat_v, dat_l, Res.dat_v, Res.dat_l, okb, exb, List.map_cons, List.map_nil, toI_int, toB_bool, bin_add, bin_sub, cmp_lt, cmp_le, cmp_gt, cmp_ge, cmp_eqi, cmp_nei, cmp_in, cmp_nin, b1_int, b1_lenl, b1_lent, b1_tupl, b1_tupt, b1_lstt, b1_lstl, ix_t0, ix_t1, isi_tup, isi_int, isi_nb, ev_b1v, ev_b1x, ev_b1c, ev_b1f, ev_b1b, ev_b1n, ev_b1t, ev_b1l, ev_b1s, if_true, if_false, Bool.false_eq_true, Bool.not_true, Bool.not_false, Bool.true_eq_false, Option.isNone_some, td_some, ix2]
          by_cases hlt : (D : Int) < k0
          · have hD : D ≤ k0 := by omega
            simp only [exs_cons, exs_nil, ex_set, ex_sef, ex_unp, ex_par, ex_app, ex_ext, ex_six, ex_exp, ex_ret, ex_retv, ex_iff, ex_rse, ex_frz, ev_var, ev_cst, ev_glb, ev_bin, ev_neg, ev_cmp, ev_chn, ev_bo, ev_nt, ev_ite, ev_tup, ev_lst, ev_ix, ev_slc, ev_call, ev_b2, ev_isi, evs_nil, evs_cons, evr_nil, evr_cons, evB_one, evB_cons, pk, peek, nth, put, bindL_nil, bindL_cons, bindR_nil, bindR_cons, frzL, dat_v, dat_l, Res.dat_v, Res.dat_l, okb, exb, List.map_cons, List.map_nil, toI_int, toB_bool, bin_add, bin_sub, cmp_lt, cmp_le, cmp_gt, cmp_ge, cmp_eqi, cmp_nei, cmp_in, cmp_nin, b1_int, b1_lenl, b1_lent, b1_tupl, b1_tupt, b1_lstt, b1_lstl, ix_t0, ix_t1, isi_tup, isi_int, isi_nb, ev_b1v, ev_b1x, ev_b1c, ev_b1f, ev_b1b, ev_b1n, ev_b1t, ev_b1l, ev_b1s, if_true, if_false, Bool.false_eq_true, Bool.not_true, Bool.not_false, Bool.true_eq_false, hlt, decide_true]
            refine yes_ok ⟨_, rfl, e ++ [y], x, x + 1 + Int.ofNat y, k0, _, by simp [he], fun i hi j hj hij k hk => Nat.le_trans (hall i hi j hj hij k hk) hD, fun i hi k hk => ?_, hx, hyn, hq, rfl⟩
            rcases List.mem_append.mp hi with z | z
            · exact Nat.le_trans (hex i z k hk) hD
            · rw [List.mem_singleton.mp z, hq] at hk
              cases hk
              exact Nat.le_refl _
          · simp only [exs_cons, exs_nil, ex_set, ex_sef, ex_unp, ex_par, ex_app, ex_ext, ex_six, ex_exp, ex_ret, ex_retv, ex_iff, ex_rse, ex_frz, ev_var, ev_cst, ev_glb, ev_bin, ev_neg, ev_cmp, ev_chn, ev_bo, ev_nt, ev_ite, ev_tup, ev_lst, ev_ix, ev_slc, ev_call, ev_b2, ev_isi, evs_nil, evs_cons, evr_nil, evr_cons, evB_one, evB_cons, pk, peek, nth, put, bindL_nil, bindL_cons, bindR_nil, bindR_cons, frzL, dat_v, dat_l, Res.dat_v, Res.dat_l, okb, exb, List.map_cons, List.map_nil, toI_int, toB_bool, bin_add, bin_sub, cmp_lt, cmp_le, cmp_gt, cmp_ge, cmp_eqi, cmp_nei, cmp_in, cmp_nin, b1_int, b1_lenl, b1_lent, b1_tupl, b1_tupt, b1_lstt, b1_lstl, ix_t0, ix_t1, isi_tup, isi_int, isi_nb, ev_b1v, ev_b1x, ev_b1c, ev_b1f, ev_b1b, ev_b1n, ev_b1t, ev_b1l, ev_b1s, if_true, if_false, Bool.false_eq_true, Bool.not_true, Bool.not_false, Bool.true_eq_false, hlt, decide_false]
            refine yes_ok ⟨_, rfl, e ++ [y], a, b, D, _, by simp [he], hall, fun i hi k hk => ?_, ha, hb, hab, rfl⟩
            rcases List.mem_append.mp hi with z | z
            · exact hex i z k hk
            · rw [List.mem_singleton.mp z, hq] at hk
              cases hk
              omega
      · rintro r ⟨e, a, b, D, j4, he, hall, hex, ha, hb, hab, rfl⟩
        rw [List.append_nil] at he
        refine yes_ok ⟨_, rfl, d ++ [x], a, b, D, _, _, _, by simp [hd], fun i hi j hj hij k hk => ?_, ha, hb, hab, rfl⟩
        rcases List.mem_append.mp hi with z | z
        · exact hall i z j hj hij k hk
        · rw [List.mem_singleton.mp z] at hij hk
          have e1 : j = x + 1 + Int.ofNat (j - (x + 1)).toNat := by
            have : Int.ofNat (j - (x + 1)).toNat = (((j - (x + 1)).toNat : Nat) : Int) := rfl
            omega
          exact hex (j - (x + 1)).toNat (by rw [he]; exact List.mem_range.mpr (by omega)) k (by rw [← e1]; exact hk)
    · rintro r ⟨d, a, b, D, j2, j3, j4, hd, hall, ha, hb, hab, rfl⟩
      rw [List.append_nil] at hd
      simp only [exs_cons, exs_nil, ex_set, ex_sef, ex_unp, ex_par, ex_app, ex_ext, ex_six, ex_exp, ex_ret, ex_retv, ex_iff, ex_rse, ex_frz, ev_var, ev_cst, ev_glb, ev_bin, ev_neg, ev_cmp, ev_chn, ev_bo, ev_nt, ev_ite, ev_tup, ev_lst, ev_ix, ev_slc, ev_call, ev_b2, ev_isi, evs_nil, evs_cons, evr_nil, evr_cons, evB_one, evB_cons, pk, peek, nth, put, bindL_nil, bindL_cons, bindR_nil, bindR_cons, frzL, dat_v, dat_l, Res.dat_v, Res.dat_l, okb, exb, List.map_cons, List.map_nil, toI_int, toB_bool, bin_add, bin_sub, cmp_lt, cmp_le, cmp_gt, cmp_ge, cmp_eqi, cmp_nei, cmp_in, cmp_nin, b1_int, b1_lenl, b1_lent, b1_tupl, b1_tupt, b1_lstt, b1_lstl, ix_t0, ix_t1, isi_tup, isi_int, isi_nb, ev_b1v, ev_b1x, ev_b1c, ev_b1f, ev_b1b, ev_b1n, ev_b1t, ev_b1l, ev_b1s, if_true, if_false, Bool.false_eq_true, Bool.not_true, Bool.not_false, Bool.true_eq_false]
      exact yes_ok ⟨a, b, D, ⟨fun i j hi hj hij k hk => hall i (by rw [hd]; exact mem_rg.mpr hi) j hj hij k hk, ha, hb, hab⟩, rfl⟩
  obtain ⟨x, e, a, b, D, h, rfl⟩ := main
  exact ⟨a, b, D, h, e⟩
theorem Fst.all {a b : Int} {D : Nat} (h : Fst n es a b D) {i j : Int} {k : Nat} (hi : In n i) (hj : In n j) (hk : dd n es i j = some k) : k ≤ D := by
  by_cases h1 : i < j
  · exact h.1 i j hi hj h1 k hk
  · by_cases h2 : j < i
    · exact h.1 j i hj hi h2 k (dd_sym hi hj hk)
    · have : i = j := by omega
      rw [this, dd_self] at hk
      cases hk
      omega
end
end HF

set_option Elab.async false
set_option linter.all false
set_option maxRecDepth 100000
set_option maxHeartbeats 4000000
/-! ### GM: law k31 -/
namespace HF
open PySem
section
variable {T : List Fn} {G : List PyData} {n : Nat} {es : List (Int × Int)}
theorem depths_ok (t : Looks T G) (h5 : nthF T 5 = some u_far_from) (h23 : nthF T 23 = some u_look_place) (h25 : nthF T 25 = some u_depths) (w : WF n es) {s : Int} (hs : In n s) (m : Nat) : cal T G (m + 5) 25 [.v (wb n es), .v (.int s)] = .ok (.l (tl n es none1 fun q => decide (q = s))) := by
  rw [cal_eq h25 rfl]
  show (exs (cal T G (m + 4)) G 1000 u_depths.body [some (.v (wb n es)), some (.v (.int s))]).bind _ = _
  unfold u_depths
  dsimp only
  simp only [exs_cons, exs_nil, ex_set, ex_sef, ex_unp, ex_par, ex_app, ex_ext, ex_six, ex_exp, ex_ret, ex_retv, ex_iff, ex_rse, ex_frz, ev_var, ev_cst, ev_glb, ev_bin, ev_neg, ev_cmp, ev_chn, ev_bo, ev_nt, ev_ite, ev_tup, ev_lst, ev_ix, ev_slc, ev_call, ev_b2, ev_isi, evs_nil, evs_cons, evr_nil, evr_cons, evB_one, evB_cons, pk, peek, nth, put, bindL_nil, bindL_cons, bindR_nil, bindR_cons, frzL, dat_v, dat_l, Res.dat_v, Res.dat_l, okb, exb, List.map_cons, List.map_nil, toI_int, toB_bool, bin_add, bin_sub, cmp_lt, cmp_le, cmp_gt, cmp_ge, cmp_eqi, cmp_nei, cmp_in, cmp_nin, b1_int, b1_lenl, b1_lent, b1_tupl, b1_tupt, b1_lstt, b1_lstl, ix_t0, ix_t1, isi_tup, isi_int, isi_nb, ev_b1v, ev_b1x, ev_b1c, ev_b1f, ev_b1b, ev_b1n, ev_b1t, ev_b1l, ev_b1s, if_true, if_false, Bool.false_eq_true, Bool.not_true, Bool.not_false, Bool.true_eq_false, look_web_ok t w m, look_place_ok (es := es) t h23 hs (m + 2), far_from_ok t h5 w hs (m + 2)]
theorem st_none : st n none1 = [] := st_nil.mpr fun _ _ _ => rfl
theorem sd_one {s : Int} (hs : In n s) : PyData.tuple [.tuple [.int s], .tuple []] = sd n (fun q => decide (q = s)) none1 := by
  unfold sd
  rw [st_one hs, st_none]
  rfl
theorem srcs_one (hn : n ≤ 7) {s p : Int} (hs : In n s) (hp : In n p) (hr : rc n es none1 s p = true) : srcs n es none1 (fun q => decide (q = s)) p = [s] := by
  unfold srcs
  obtain ⟨k, hk⟩ := dd_ex hn hp hr
  have hk' : ft n es none1 (fun q => decide (q = s)) p = some k := hk
  rw [hk', if_neg (by simp), st_one hs]
  simp [hk']
/-- all but the start burn in some turn -/
theorem sumI_app : ∀ (a b : List Int), sumI (a ++ b) = sumI a + sumI b
  | [], b => by simp [sumI]
  | x :: a, b => by simp only [List.cons_append, sumI, sumI_app a b]; omega
theorem filt_or {α : Type} {p q : α → Bool} : ∀ (l : List α), (∀ x ∈ l, p x = true → q x = false) → (l.filter fun x => p x || q x).length = (l.filter p).length + (l.filter q).length
  | [], _ => rfl
  | a :: l, h => by
    have ih := filt_or l fun x hx => h x (List.mem_cons_of_mem _ hx)
    cases hp : p a with
    | true =>
      have hq := h a List.mem_cons_self hp
      rw [List.filter_cons_of_pos (by simp [hp]), List.filter_cons_of_pos hp, List.filter_cons_of_neg (by simp [hq])]
      simp only [List.length_cons]
      omega
    | false =>
      cases hq : q a with
      | true =>
        rw [List.filter_cons_of_pos (by simp [hq]), List.filter_cons_of_neg (by simp [hp]), List.filter_cons_of_pos hq]
        simp only [List.length_cons]
        omega
      | false =>
        rw [List.filter_cons_of_neg (by simp [hp, hq]), List.filter_cons_of_neg (by simp [hp]), List.filter_cons_of_neg (by simp [hq])]
        exact ih
theorem fold_zip (f : Int → Option Nat) (l : List Int) : ∀ M : Nat, sumI ((List.range M).map fun j => (((l.filter fun p => decide (f p = some (j + 1))).length : Nat) : Int)) = (((l.filter fun p => (List.range M).any fun j => decide (f p = some (j + 1))).length : Nat) : Int)
  | 0 => by
    have : (l.filter fun p => (List.range 0).any fun j => decide (f p = some (j + 1))) = [] := List.filter_eq_nil_iff.mpr fun x _ h => by simp at h
    rw [this]
    rfl
  | M + 1 => by
    have e : (l.filter fun p => (List.range (M + 1)).any fun j => decide (f p = some (j + 1))) = l.filter fun p => ((List.range M).any fun j => decide (f p = some (j + 1))) || decide (f p = some (M + 1)) := by
      refine List.filter_congr fun p _ => ?_
      rw [List.range_succ, List.any_append]
      simp
    rw [e, filt_or l fun x _ h => ?_, List.range_succ, List.map_append, sumI_app, fold_zip f l M]
    · simp only [List.map_cons, List.map_nil, sumI]
      omega
    · obtain ⟨j, hj, hd⟩ := List.any_eq_true.mp h
      refine decide_eq_false fun z => ?_
      have e1 := of_decide_eq_true hd
      rw [z] at e1
      have := Option.some.inj e1
      have := List.mem_range.mp hj
      omega
theorem filt_ne : ∀ {l : List Int} {s : Int}, l.Nodup → s ∈ l → (l.filter fun p => decide (p ≠ s)).length + 1 = l.length
  | [], s, _, h => by simp at h
  | a :: l, s, nd, h => by
    rw [List.nodup_cons] at nd
    by_cases e : a = s
    · subst e
      rw [List.filter_cons_of_neg (by simp), List.filter_eq_self.mpr fun b hb => decide_eq_true (p := b ≠ a) fun z => nd.1 (z ▸ hb)]
      rfl
    · rw [List.filter_cons_of_pos (by simp [e]), List.length_cons, List.length_cons, filt_ne nd.2 (by
        rcases List.mem_cons.mp h with z | z
        · exact absurd z.symm e
        · exact z)]
theorem fronts_sum (hn : n ≤ 7) {s : Int} (hs : In n s) : sumI ((rowsL n es none1 fun q => decide (q = s)).map fun d => match d with | .list xs => ((xs.length : Nat) : Int) | _ => 0) = (((st n (rc n es none1 s)).length : Nat) : Int) - 1 := by
  have e1 : ((rowsL n es none1 fun q => decide (q = s)).map fun d => match d with | .list xs => ((xs.length : Nat) : Int) | _ => 0) = (List.range (mx n es none1 fun q => decide (q = s))).map fun j => ((((rg n).filter fun p => decide (dd n es s p = some (j + 1))).length : Nat) : Int) := by
    unfold rowsL
    rw [List.map_map]
    refine List.map_congr_left fun j _ => ?_
    show (((ofI (fq n es none1 (fun q => decide (q = s)) (j + 1))).length : Nat) : Int) = _
    rw [ofI_len]
    rfl
  rw [e1, fold_zip]
  have e2 : ((rg n).filter fun p => (List.range (mx n es none1 fun q => decide (q = s))).any fun j => decide (dd n es s p = some (j + 1))) = (st n (rc n es none1 s)).filter fun p => decide (p ≠ s) := by
    unfold st
    rw [List.filter_filter]
    refine List.filter_congr fun p hp => ?_
    have hpn := mem_rg.mp hp
    refine bool_ext (fun h => ?_) fun h => ?_
    · obtain ⟨j, _, hj⟩ := List.any_eq_true.mp h
      have hd := of_decide_eq_true hj
      rw [Bool.and_eq_true, decide_eq_true_eq]
      refine ⟨fun e => ?_, ?_⟩
      · rw [e, dd_self] at hd
        cases hd
      · cases q : rc n es none1 s p with
        | true => rfl
        | false => rw [(dd_rc hn hpn).mpr q] at hd; cases hd
    · rw [Bool.and_eq_true, decide_eq_true_eq] at h
      obtain ⟨k, hk⟩ := dd_ex hn hpn h.2
      cases k with
      | zero => exact absurd (dd_zero hk) h.1
      | succ k =>
        have := mx_ge hpn (show ft n es none1 (fun q => decide (q = s)) p = some (k + 1) from hk)
        exact List.any_eq_true.mpr ⟨k, List.mem_range.mpr (by omega), decide_eq_true hk⟩
  rw [e2]
  have := filt_ne (l := st n (rc n es none1 s)) (s := s) ((st_sorted n _).imp fun h => by omega) (mem_st.mpr ⟨hs, rc_self s⟩)
  omega
end
end HF

set_option Elab.async false
set_option linter.all false
set_option maxRecDepth 100000
set_option maxHeartbeats 4000000
/-! ### GN: law k31, its run -/
namespace HF
open PySem
theorem cmp_eqb (a b : Bool) : cmpD .eq (.bool a) (.bool b) = .ok (a == b) := by cases a <;> cases b <;> rfl
theorem cmp_eq_nilp (l : List (Int × Int)) : cmpD .eq (.tuple (ofP l)) (.tuple []) = .ok l.isEmpty := by
  rw [cmp_eq_pl (a := .tuple (ofP l)) (b := .tuple []) (k := 2) (pl_ofP l 0) rfl (by omega)]
  cases l <;> rfl
theorem b1_sumI (l : List Int) : b1D .sum (.list (ofI l)) = .ok (.v (.int (sumI l))) := by simp only [b1D, intsD_of]
def rowLen (d : PyData) : Int := match d with
  | .list xs => ((xs.length : Nat) : Int)
  | _ => 0
def law31 : Fn := { pars := 1, slots := 13, body := (.cons (.sef 1 (.call 68 (.cons (.var 0) (.cons (.cst (.int 10)) .nil))))
   (.cons (.sef 2 (.call 8 (.cons (.var 0) (.cons (.cst (.int 1)) (.cons (.ix (.var 1) (.cst (.int 0))) .nil)))))
   (.cons (.unp [5, 6] (.tup (.cons (.tup (.cons (.tup (.cons (.var 2) .nil)) (.cons (.tup .nil) .nil))) (.cons (.call 25 (.cons (.var 1) (.cons (.var 2) .nil))) .nil))))
   (.cons (.iff (.cmp .ne (.call 73 (.cons (.var 1) (.cons (.var 5) .nil))) (.var 6)) (.cons (.ret (.cst (.bool false)))
   .nil) .nil)
   (.cons (.sef 3 (.ix (.comp (.var 11) [11] (.call 64 (.cons (.var 1) .nil)) (.cmp .inn (.var 2) (.var 11))) (.cst (.int 0))))
   (.cons (.iff (.cmp .ne (.call 76 (.cons (.var 1) (.cons (.var 5) .nil))) (.comp (.var 4) [4] (.rng1 (.ix (.var 1) (.cst (.int 0)))) (.cmp .nin (.var 4) (.var 3)))) (.cons (.ret (.cst (.bool false)))
   .nil) .nil)
   (.cons (.fr [4] (.var 3) (.cons (.sef 7 (.call 69 (.cons (.var 1) (.cons (.var 2) (.cons (.var 4) .nil)))))
   (.cons (.iff (.bo false (.cons (.cmp .ne (.comp (.ix (.var 6) (.var 8)) [8] (.var 7) (.cst (.bool true))) (.b1 .list (.rng1 (.b1 .len (.var 7))))) (.cons (.cmp .ne (.call 77 (.cons (.var 1) (.cons (.var 5) (.cons (.var 4) .nil)))) (.lst (.cons (.var 2) .nil))) .nil))) (.cons (.ret (.cst (.bool false)))
   .nil) .nil)
   .nil)))
   (.cons (.iff (.bo false (.cons (.cmp .gt (.call 75 (.cons (.var 1) (.cons (.var 5) .nil))) (.ix (.call 70 (.cons (.var 1) .nil)) (.cst (.int 2)))) (.cons (.cmp .ne (.b1 .sum (.comp (.b1 .len (.var 12)) [12] (.call 74 (.cons (.var 1) (.cons (.var 5) .nil))) (.cst (.bool true)))) (.bin .sub (.b1 .len (.var 3)) (.cst (.int 1)))) .nil))) (.cons (.ret (.cst (.bool false)))
   .nil) .nil)
   (.cons (.unp [8, 9, 10] (.call 70 (.cons (.var 1) .nil)))
   (.cons (.ret (.bo true (.cons (.cmp .eq (.call 75 (.cons (.var 1) (.cons (.tup (.cons (.tup (.cons (.var 8) .nil)) (.cons (.tup .nil) .nil))) .nil))) (.var 10)) (.cons (.cmp .eq (.cmp .eq (.var 10) (.cst (.int 0))) (.cmp .eq (.ix (.var 1) (.cst (.int 1))) (.tup .nil))) .nil))))
   .nil)))))))))) }
theorem main31 {T : List Fn} {G : List PyData} (t : Times T G) (tp : Picks T) (tq : Parts T G) (h5 : nthF T 5 = some u_far_from) (h9 : nthF T 9 = some u__law_web) (h68 : nthF T 68 = some u__law_loose) (h23 : nthF T 23 = some u_look_place) (h25 : nthF T 25 = some u_depths) (h69 : nthF T 69 = some u_first_way) (h70 : nthF T 70 = some u_farthest)
    (h74 : nthF T 74 = some u_fronts) (h75 : nthF T 75 = some u_turns_left) (h76 : nthF T 76 = some u_safe_places) (h77 : nthF T 77 = some u_sources) (hl : nthF T 127 = some law31) (ns : List Int) : cal T G 20 127 [.v (scr ns)] = .ok (.v (.bool true)) := by
  rw [cal_eq (n := 19) hl rfl]
  show (exs (cal T G 19) G 1000 law31.body [some (.v (scr ns)), none, none, none, none, none, none, none, none, none, none, none, none]).bind _ = _
  obtain ⟨n, es, w, hw⟩ := law_loose_ok (G := G) tp h9 h68 15 ns (k := 10) (by omega)
  have hw' : cal T G 19 68 [.v (scr ns), .v (.int 10)] = .ok (.v (wb n es)) := hw
  have hlo := w.lo
  have hhi := w.hi
  obtain ⟨s, s0, s1, hp⟩ := pk_ok (G := G) tp 17 ns (k := 1) (c := n) (by omega) (by omega)
  have hp' : cal T G 19 8 [.v (scr ns), .v (.int 1), .v (.int n)] = .ok (.v (.int s)) := hp
  have hs : In n s := ⟨s0, s1⟩
  have dj : ∀ s : Int, ∀ p, In n p → (fun q => decide (q = s)) p = true → none1 p = false := fun _ _ _ _ => rfl
  have c25 : cal T G 19 25 [.v (wb n es), .v (.int s)] = .ok (.l (tl n es none1 fun q => decide (q = s))) := depths_ok t.toLooks h5 h23 h25 w hs 14
  have c73 : cal T G 19 73 [.v (wb n es), .v (.tuple [.tuple [.int s], .tuple []])] = .ok (.l (tl n es none1 fun q => decide (q = s))) := by rw [sd_one hs]; exact burn_times_ok t w (dj s) 12
  have c64 : cal T G 19 64 [.v (wb n es)] = .ok (.l (prts n es none1)) := parts_ok tq w 14
  have c76 : cal T G 19 76 [.v (wb n es), .v (.tuple [.tuple [.int s], .tuple []])] = .ok (.l (ofI (st n fun p => (ft n es none1 (fun q => decide (q = s)) p).isNone))) := by rw [sd_one hs]; exact safe_places_ok t h76 w (dj s) 11
  have c77 : ∀ x, In n x → cal T G 19 77 [.v (wb n es), .v (.tuple [.tuple [.int s], .tuple []]), .v (.int x)] = .ok (.l (ofI (srcs n es none1 (fun q => decide (q = s)) x))) := fun x hx => by rw [sd_one hs]; exact sources_ok t h23 h77 w (dj s) hx 12
  have c74 : cal T G 19 74 [.v (wb n es), .v (.tuple [.tuple [.int s], .tuple []])] = .ok (.l (rowsL n es none1 fun q => decide (q = s))) := by rw [sd_one hs]; exact fronts_ok t h74 w (dj s) 11
  have c75 : ∀ x, In n x → cal T G 19 75 [.v (wb n es), .v (.tuple [.tuple [.int x], .tuple []])] = .ok (.v (.int (mx n es none1 (fun q => decide (q = x)) : Nat))) := fun x hx => by rw [sd_one hx]; exact turns_left_ok t h74 h75 w (dj x) 10
  obtain ⟨a, b, D, hF, c70'⟩ := farthest_ok t.toLooks h5 h70 w 14
  have c70 : cal T G 19 70 [.v (wb n es)] = .ok (.v (.tuple [.int a, .int b, .int (D : Nat)])) := c70'
  have hmx : ∀ x, In n x → mx n es none1 (fun q => decide (q = x)) ≤ D := fun x hx => by
    rcases mx_at (n := n) (es := es) (S := none1) (B := fun q => decide (q = x)) with z | ⟨p, hp, z⟩
    · omega
    · exact hF.all hx hp z
  have e1 := cmp_ne_same (pl_tl (n := n) (es := es) (S := none1) (B := fun q => decide (q = s))) (by omega : 1 ≤ 64)
  unfold law31
  dsimp only
  simp only [exs_cons, exs_nil, ex_set, ex_sef, ex_unp, ex_par, ex_app, ex_ext, ex_six, ex_exp, ex_ret, ex_retv, ex_iff, ex_rse, ex_frz, ev_var, ev_cst, ev_glb, ev_bin, ev_neg, ev_cmp, ev_chn, ev_bo, ev_nt, ev_ite, ev_tup, ev_lst, ev_ix, ev_slc, ev_call, ev_b2, ev_isi, evs_nil, evs_cons, evr_nil, evr_cons, evB_one, evB_cons, pk, peek, nth, put, bindL_nil, bindL_cons, bindR_nil, bindR_cons, frzL, dat_v, dat_l, Res.dat_v, Res.dat_l, okb, exb, List.map_cons, List.map_nil, toI_int, toB_bool, bin_add, bin_sub, cmp_lt, cmp_le, cmp_gt, cmp_ge, cmp_eqi, cmp_nei, cmp_in, cmp_nin, b1_int, b1_lenl, b1_lent, b1_tupl, b1_tupt, b1_lstt, b1_lstl, ix_t0, ix_t1, isi_tup, isi_int, isi_nb, ev_b1v, ev_b1x, ev_b1c, ev_b1f, ev_b1b, ev_b1n, ev_b1t, ev_b1l, ev_b1s, if_true, if_false, Bool.false_eq_true, Bool.not_true, Bool.not_false, Bool.true_eq_false, hw', hp', ix_wb0, c25, c73, e1, O.bind_assoc]
  rw [ev_comp (xs := st n (lead n es none1)) (enc := fun q => .list (ofI (st n (rc n es none1 q)))) (fun q => [some (.v (scr ns)), some (.v (wb n es)), some (.v (.int s)), none, none, some (.v (.tuple [.tuple [.int s], .tuple []])), some (.v (.list (tl n es none1 fun q => decide (q = s)))), none, none, none, none, some (.v (.list (ofI (st n (rc n es none1 q))))), none]) (fun q => rc n es none1 q s) (fun q => .list (ofI (st n (rc n es none1 q))))
    (by rw [srcV_call]; simp only [exs_cons, exs_nil, ex_set, ex_sef, ex_unp, ex_par, ex_app, ex_ext, ex_six, ex_exp, ex_ret, ex_retv, ex_iff, ex_rse, ex_frz, ev_var, ev_cst, ev_glb, ev_bin, ev_neg, ev_cmp, ev_chn, ev_bo, ev_nt, ev_ite, ev_tup, ev_lst, ev_ix, ev_slc, ev_call, ev_b2, ev_isi, evs_nil, evs_cons, evr_nil, evr_cons, evB_one, evB_cons, pk, peek, nth, put, bindL_nil, bindL_cons, bindR_nil, bindR_cons, frzL, dat_v, dat_l, Res.dat_v, Res.dat_l, okb, exb, List.map_cons, List.map_nil, toI_int, toB_bool, bin_add, bin_sub, cmp_lt, cmp_le, cmp_gt, cmp_ge, cmp_eqi, cmp_nei, cmp_in, cmp_nin, b1_int, b1_lenl, b1_lent, b1_tupl, b1_tupt, b1_lstt, b1_lstl, ix_t0, ix_t1, isi_tup, isi_int, isi_nb, ev_b1v, ev_b1x, ev_b1c, ev_b1f, ev_b1b, ev_b1n, ev_b1t, ev_b1l, ev_b1s, if_true, if_false, Bool.false_eq_true, Bool.not_true, Bool.not_false, Bool.true_eq_false, c64]; rfl) (fun q _ => rfl) (fun q _ => by simp only [exs_cons, exs_nil, ex_set, ex_sef, ex_unp, ex_par, ex_app, ex_ext, ex_six, ex_exp, ex_ret, ex_retv, ex_iff, ex_rse, ex_frz, ev_var, ev_cst, ev_glb, ev_bin, ev_neg, ev_cmp, ev_chn, ev_bo, ev_nt, ev_ite, ev_tup, ev_lst, ev_ix, ev_slc, ev_call, ev_b2, ev_isi, evs_nil, evs_cons, evr_nil, evr_cons, evB_one, evB_cons, pk, peek, nth, put, bindL_nil, bindL_cons, bindR_nil, bindR_cons, frzL, dat_v, dat_l, Res.dat_v, Res.dat_l, okb, exb, List.map_cons, List.map_nil, toI_int, toB_bool, bin_add, bin_sub, cmp_lt, cmp_le, cmp_gt, cmp_ge, cmp_eqi, cmp_nei, cmp_in, cmp_nin, b1_int, b1_lenl, b1_lent, b1_tupl, b1_tupt, b1_lstt, b1_lstl, ix_t0, ix_t1, isi_tup, isi_int, isi_nb, ev_b1v, ev_b1x, ev_b1c, ev_b1f, ev_b1b, ev_b1n, ev_b1t, ev_b1l, ev_b1s, if_true, if_false, Bool.false_eq_true, Bool.not_true, Bool.not_false, Bool.true_eq_false, in_list, mem_dec hs]) (fun q _ _ => by simp only [exs_cons, exs_nil, ex_set, ex_sef, ex_unp, ex_par, ex_app, ex_ext, ex_six, ex_exp, ex_ret, ex_retv, ex_iff, ex_rse, ex_frz, ev_var, ev_cst, ev_glb, ev_bin, ev_neg, ev_cmp, ev_chn, ev_bo, ev_nt, ev_ite, ev_tup, ev_lst, ev_ix, ev_slc, ev_call, ev_b2, ev_isi, evs_nil, evs_cons, evr_nil, evr_cons, evB_one, evB_cons, pk, peek, nth, put, bindL_nil, bindL_cons, bindR_nil, bindR_cons, frzL, dat_v, dat_l, Res.dat_v, Res.dat_l, okb, exb, List.map_cons, List.map_nil, toI_int, toB_bool, bin_add, bin_sub, cmp_lt, cmp_le, cmp_gt, cmp_ge, cmp_eqi, cmp_nei, cmp_in, cmp_nin, b1_int, b1_lenl, b1_lent, b1_tupl, b1_tupt, b1_lstt, b1_lstl, ix_t0, ix_t1, isi_tup, isi_int, isi_nb, ev_b1v, ev_b1x, ev_b1c, ev_b1f, ev_b1b, ev_b1n, ev_b1t, ev_b1l, ev_b1s, if_true, if_false, Bool.false_eq_true, Bool.not_true, Bool.not_false, Bool.true_eq_false])]
  obtain ⟨q0, l0, hq0⟩ : ∃ q0 l0, (st n (lead n es none1)).filter (fun q => rc n es none1 q s) = q0 :: l0 := by
    obtain ⟨q, hqn, _, hql, hqs⟩ := lead_ex (es := es) (g := none1) hhi hs s.toNat s (Nat.le_refl _) hs rfl (rc_self s)
    have hm : q ∈ (st n (lead n es none1)).filter (fun q => rc n es none1 q s) := List.mem_filter.mpr ⟨mem_st.mpr ⟨hqn, hql⟩, hqs⟩
    cases z : (st n (lead n es none1)).filter (fun q => rc n es none1 q s) with
    | nil => rw [z] at hm; simp at hm
    | cons x l => exact ⟨x, l, rfl⟩
  have hq0m : q0 ∈ (st n (lead n es none1)).filter (fun q => rc n es none1 q s) := by rw [hq0]; simp
  obtain ⟨hq1, hq2⟩ := List.mem_filter.mp hq0m
  have hq0n := (mem_st.mp hq1).1
  have hown : st n (rc n es none1 q0) = st n (rc n es none1 s) := st_congr fun x x0 x1 => bool_ext (fun h => rc_trans hhi ⟨x0, x1⟩ (rc_symm (g := none1) hhi hq0n hs rfl hq2) h) fun h => rc_trans hhi ⟨x0, x1⟩ hq2 h
  rw [hq0, List.map_cons]
  simp only [exs_cons, exs_nil, ex_set, ex_sef, ex_unp, ex_par, ex_app, ex_ext, ex_six, ex_exp, ex_ret, ex_retv, ex_iff, ex_rse, ex_frz, ev_var, ev_cst, ev_glb, ev_bin, ev_neg, ev_cmp, ev_chn, ev_bo, ev_nt, ev_ite, ev_tup, ev_lst, ev_ix, ev_slc, ev_call, ev_b2, ev_isi, evs_nil, evs_cons, evr_nil, evr_cons, evB_one, evB_cons, pk, peek, nth, put, bindL_nil, bindL_cons, bindR_nil, bindR_cons, frzL, dat_v, dat_l, Res.dat_v, Res.dat_l, okb, exb, List.map_cons, List.map_nil, toI_int, toB_bool, bin_add, bin_sub, cmp_lt, cmp_le, cmp_gt, cmp_ge, cmp_eqi, cmp_nei, cmp_in, cmp_nin, b1_int, b1_lenl, b1_lent, b1_tupl, b1_tupt, b1_lstt, b1_lstl, ix_t0, ix_t1, isi_tup, isi_int, isi_nb, ev_b1v, ev_b1x, ev_b1c, ev_b1f, ev_b1b, ev_b1n, ev_b1t, ev_b1l, ev_b1s, if_true, if_false, Bool.false_eq_true, Bool.not_true, Bool.not_false, Bool.true_eq_false, ix_l0, hown, c76]
  rw [comp_rg (n := n) (c := fun p => !rc n es none1 s p) (e := fun p => .int p) (by omega) (by simp only [exs_cons, exs_nil, ex_set, ex_sef, ex_unp, ex_par, ex_app, ex_ext, ex_six, ex_exp, ex_ret, ex_retv, ex_iff, ex_rse, ex_frz, ev_var, ev_cst, ev_glb, ev_bin, ev_neg, ev_cmp, ev_chn, ev_bo, ev_nt, ev_ite, ev_tup, ev_lst, ev_ix, ev_slc, ev_call, ev_b2, ev_isi, evs_nil, evs_cons, evr_nil, evr_cons, evB_one, evB_cons, pk, peek, nth, put, bindL_nil, bindL_cons, bindR_nil, bindR_cons, frzL, dat_v, dat_l, Res.dat_v, Res.dat_l, okb, exb, List.map_cons, List.map_nil, toI_int, toB_bool, bin_add, bin_sub, cmp_lt, cmp_le, cmp_gt, cmp_ge, cmp_eqi, cmp_nei, cmp_in, cmp_nin, b1_int, b1_lenl, b1_lent, b1_tupl, b1_tupt, b1_lstt, b1_lstl, ix_t0, ix_t1, isi_tup, isi_int, isi_nb, ev_b1v, ev_b1x, ev_b1c, ev_b1f, ev_b1b, ev_b1n, ev_b1t, ev_b1l, ev_b1s, if_true, if_false, Bool.false_eq_true, Bool.not_true, Bool.not_false, Bool.true_eq_false, ix_wb0]) (fun x x0 x1 => by simp only [exs_cons, exs_nil, ex_set, ex_sef, ex_unp, ex_par, ex_app, ex_ext, ex_six, ex_exp, ex_ret, ex_retv, ex_iff, ex_rse, ex_frz, ev_var, ev_cst, ev_glb, ev_bin, ev_neg, ev_cmp, ev_chn, ev_bo, ev_nt, ev_ite, ev_tup, ev_lst, ev_ix, ev_slc, ev_call, ev_b2, ev_isi, evs_nil, evs_cons, evr_nil, evr_cons, evB_one, evB_cons, pk, peek, nth, put, bindL_nil, bindL_cons, bindR_nil, bindR_cons, frzL, dat_v, dat_l, Res.dat_v, Res.dat_l, okb, exb, List.map_cons, List.map_nil, toI_int, toB_bool, bin_add, bin_sub, cmp_lt, cmp_le, cmp_gt, cmp_ge, cmp_eqi, cmp_nei, cmp_in, cmp_nin, b1_int, b1_lenl, b1_lent, b1_tupl, b1_tupt, b1_lstt, b1_lstl, ix_t0, ix_t1, isi_tup, isi_int, isi_nb, ev_b1v, ev_b1x, ev_b1c, ev_b1f, ev_b1b, ev_b1n, ev_b1t, ev_b1l, ev_b1s, if_true, if_false, Bool.false_eq_true, Bool.not_true, Bool.not_false, Bool.true_eq_false, in_list, mem_dec (B := rc n es none1 s) ⟨x0, x1⟩]) (fun x _ _ _ => by simp only [exs_cons, exs_nil, ex_set, ex_sef, ex_unp, ex_par, ex_app, ex_ext, ex_six, ex_exp, ex_ret, ex_retv, ex_iff, ex_rse, ex_frz, ev_var, ev_cst, ev_glb, ev_bin, ev_neg, ev_cmp, ev_chn, ev_bo, ev_nt, ev_ite, ev_tup, ev_lst, ev_ix, ev_slc, ev_call, ev_b2, ev_isi, evs_nil, evs_cons, evr_nil, evr_cons, evB_one, evB_cons, pk, peek, nth, put, bindL_nil, bindL_cons, bindR_nil, bindR_cons, frzL, dat_v, dat_l, Res.dat_v, Res.dat_l, okb, exb, List.map_cons, List.map_nil, toI_int, toB_bool, bin_add, bin_sub, cmp_lt, cmp_le, cmp_gt, cmp_ge, cmp_eqi, cmp_nei, cmp_in, cmp_nin, b1_int, b1_lenl, b1_lent, b1_tupl, b1_tupt, b1_lstt, b1_lstl, ix_t0, ix_t1, isi_tup, isi_int, isi_nb, ev_b1v, ev_b1x, ev_b1c, ev_b1f, ev_b1b, ev_b1n, ev_b1t, ev_b1l, ev_b1s, if_true, if_false, Bool.false_eq_true, Bool.not_true, Bool.not_false, Bool.true_eq_false])]
  have e2 : (st n fun p => !rc n es none1 s p).map (fun p => PyData.int p) = ofI (st n fun p => (ft n es none1 (fun q => decide (q = s)) p).isNone) := by
    have : (st n fun p => !rc n es none1 s p) = st n fun p => (ft n es none1 (fun q => decide (q = s)) p).isNone := st_congr fun x x0 x1 => by
      have h := dd_rc (es := es) (s := s) hhi (p := x) ⟨x0, x1⟩
      unfold dd at h
      cases q : ft n es none1 (fun q => decide (q = s)) x with
      | none => rw [h.mp q]; rfl
      | some k =>
        cases z : rc n es none1 s x with
        | true => rfl
        | false => rw [h.mpr z] at q; cases q
    rw [this]
    rfl
  rw [e2]
  have e3 : cmpD .ne (.list (ofI (st n fun p => (ft n es none1 (fun q => decide (q = s)) p).isNone))) (.list (ofI (st n fun p => (ft n es none1 (fun q => decide (q = s)) p).isNone))) = .ok false := cmp_ne_same (k := 1) (pl_ofI _ 0) (by omega)
  simp only [exs_cons, exs_nil, ex_set, ex_sef, ex_unp, ex_par, ex_app, ex_ext, ex_six, ex_exp, ex_ret, ex_retv, ex_iff, ex_rse, ex_frz, ev_var, ev_cst, ev_glb, ev_bin, ev_neg, ev_cmp, ev_chn, ev_bo, ev_nt, ev_ite, ev_tup, ev_lst, ev_ix, ev_slc, ev_call, ev_b2, ev_isi, evs_nil, evs_cons, evr_nil, evr_cons, evB_one, evB_cons, pk, peek, nth, put, bindL_nil, bindL_cons, bindR_nil, bindR_cons, frzL, dat_v, dat_l, Res.dat_v, Res.dat_l, okb, exb, List.map_cons, List.map_nil, toI_int, toB_bool, bin_add, bin_sub, cmp_lt, cmp_le, cmp_gt, cmp_ge, cmp_eqi, cmp_nei, cmp_in, cmp_nin, b1_int, b1_lenl, b1_lent, b1_tupl, b1_tupt, b1_lstt, b1_lstl, ix_t0, ix_t1, isi_tup, isi_int, isi_nb, ev_b1v, ev_b1x, ev_b1c, ev_b1f, ev_b1b, ev_b1n, ev_b1t, ev_b1l, ev_b1s, if_true, if_false, Bool.false_eq_true, Bool.not_true, Bool.not_false, Bool.true_eq_false, e3, O.bind_assoc]
  refine Yes.eq (fr_yes (enc := .int) (xs := st n (rc n es none1 s)) (fun xs r => (∀ x ∈ xs, x ∈ st n (rc n es none1 s)) ∧ ∃ j4 j7 : Option Res, r = [some (.v (scr ns)), some (.v (wb n es)), some (.v (.int s)), some (.v (.list (ofI (st n (rc n es none1 s))))), j4, some (.v (.tuple [.tuple [.int s], .tuple []])), some (.v (.list (tl n es none1 fun q => decide (q = s)))), j7, none, none, none, none, none]) (by rfl) ⟨fun x hx => hx, _, _, rfl⟩ ?_ ?_)
  · rintro x xs r ⟨hin, j4, j7, rfl⟩
    obtain ⟨hx, hxr⟩ := mem_st.mp (hin x (by simp))
    obtain ⟨l, hl1, hl2, hl3, c69'⟩ := first_way_ok t.toLooks h5 h23 h69 w hs hx hxr 14
    have c69 : cal T G 19 69 [.v (wb n es), .v (.int s), .v (.int x)] = .ok (.l (ofI l)) := c69'
    refine ⟨_, rfl, ?_⟩
    simp only [exs_cons, exs_nil, ex_set, ex_sef, ex_unp, ex_par, ex_app, ex_ext, ex_six, ex_exp, ex_ret, ex_retv, ex_iff, ex_rse, ex_frz, ev_var, ev_cst, ev_glb, ev_bin, ev_neg, ev_cmp, ev_chn, ev_bo, ev_nt, ev_ite, ev_tup, ev_lst, ev_ix, ev_slc, ev_call, ev_b2, ev_isi, evs_nil, evs_cons, evr_nil, evr_cons, evB_one, evB_cons, pk, peek, nth, put, bindL_nil, bindL_cons, bindR_nil, bindR_cons, frzL, dat_v, dat_l, Res.dat_v, Res.dat_l, okb, exb, List.map_cons, List.map_nil, toI_int, toB_bool, bin_add, bin_sub, cmp_lt, cmp_le, cmp_gt, cmp_ge, cmp_eqi, cmp_nei, cmp_in, cmp_nin, b1_int, b1_lenl, b1_lent, b1_tupl, b1_tupt, b1_lstt, b1_lstl, ix_t0, ix_t1, isi_tup, isi_int, isi_nb, ev_b1v, ev_b1x, ev_b1c, ev_b1f, ev_b1b, ev_b1n, ev_b1t, ev_b1l, ev_b1s, if_true, if_false, Bool.false_eq_true, Bool.not_true, Bool.not_false, Bool.true_eq_false, c69]
    rw [comp_lT (l := l) (e := fun y => td (dd n es s y)) (by rfl) (fun y hy => by simp only [exs_cons, exs_nil, ex_set, ex_sef, ex_unp, ex_par, ex_app, ex_ext, ex_six, ex_exp, ex_ret, ex_retv, ex_iff, ex_rse, ex_frz, ev_var, ev_cst, ev_glb, ev_bin, ev_neg, ev_cmp, ev_chn, ev_bo, ev_nt, ev_ite, ev_tup, ev_lst, ev_ix, ev_slc, ev_call, ev_b2, ev_isi, evs_nil, evs_cons, evr_nil, evr_cons, evB_one, evB_cons, pk, peek, nth, put, bindL_nil, bindL_cons, bindR_nil, bindR_cons, frzL, dat_v, dat_l, Res.dat_v, Res.dat_l, okb, exb, List.map_cons, List.map_nil, toI_int, toB_bool, bin_add, bin_sub, cmp_lt, cmp_le, cmp_gt, cmp_ge, cmp_eqi, cmp_nei, cmp_in, cmp_nin, b1_int, b1_lenl, b1_lent, b1_tupl, b1_tupt, b1_lstt, b1_lstl, ix_t0, ix_t1, isi_tup, isi_int, isi_nb, ev_b1v, ev_b1x, ev_b1c, ev_b1f, ev_b1b, ev_b1n, ev_b1t, ev_b1l, ev_b1s, if_true, if_false, Bool.false_eq_true, Bool.not_true, Bool.not_false, Bool.true_eq_false]; rw [ix_tl (hl1 y hy)]; rfl)]
    have e4 : l.map (fun y => td (dd n es s y)) = ofI (rg l.length) := by
      have := congrArg (fun z => z.map td) hl2
      simp only [List.map_map] at this
      unfold ofI rg
      rw [List.map_map]
      exact this
    have e5 : rngD 0 ((l.length : Nat) : Int) = .ok (ofI (rg l.length)) := rngD_zero l.length (by omega)
    have e6 : cmpD .ne (.list (ofI (rg l.length))) (.list (ofI (rg l.length))) = .ok false := cmp_ne_same (k := 1) (pl_ofI _ 0) (by omega)
    have e7 : cmpD .ne (.list (ofI [s])) (.list [.int s]) = .ok false := cmp_ne_same (a := .list (ofI [s])) (k := 1) (pl_ofI _ 0) (by omega)
    rw [e4]
    simp only [exs_cons, exs_nil, ex_set, ex_sef, ex_unp, ex_par, ex_app, ex_ext, ex_six, ex_exp, ex_ret, ex_retv, ex_iff, ex_rse, ex_frz, ev_var, ev_cst, ev_glb, ev_bin, ev_neg, ev_cmp, ev_chn, ev_bo, ev_nt, ev_ite, ev_tup, ev_lst, ev_ix, ev_slc, ev_call, ev_b2, ev_isi, evs_nil, evs_cons, evr_nil, evr_cons, evB_one, evB_cons, pk, peek, nth, put, bindL_nil, bindL_cons, bindR_nil, bindR_cons, frzL, dat_v, dat_l, Res.dat_v, Res.dat_l, okb, exb, List.map_cons, List.map_nil, toI_int, toB_bool, bin_add, bin_sub, cmp_lt, cmp_le, cmp_gt, cmp_ge, cmp_eqi, cmp_nei, cmp_in, cmp_nin, b1_int, b1_lenl, b1_lent, b1_tupl, b1_tupt, b1_lstt, b1_lstl, ix_t0, ix_t1, isi_tup, isi_int, isi_nb, ev_b1v, ev_b1x, ev_b1c, ev_b1f, ev_b1b, ev_b1n, ev_b1t, ev_b1l, ev_b1s, if_true, if_false, Bool.false_eq_true, Bool.not_true, Bool.not_false, Bool.true_eq_false, ev_b1r1, ofI_len, e5, rgB, e6, c77 x hx, srcs_one hhi hs hx hxr, e7]
    exact yes_ok ⟨_, rfl, fun y hy => hin y (List.mem_cons_of_mem _ hy), _, _, rfl⟩
  · rintro r ⟨_, j4, j7, rfl⟩
    have ix2 : ixD (.tuple [.int a, .int b, .int (D : Nat)]) (.int 2) = .ok (.int (D : Nat)) := at_ok (xs := [.int a, .int b, .int (D : Nat)]) (i := 2) (d := .int (D : Nat)) rfl
    have e8 : decide (((D : Nat) : Int) < ((mx n es none1 (fun q => decide (q = s)) : Nat) : Int)) = false := decide_eq_false (by have := hmx s hs; omega)
    simp only [exs_cons, exs_nil, ex_set, ex_sef, ex_unp, ex_par, ex_app, ex_ext, ex_six, ex_exp, ex_ret, ex_retv, ex_iff, ex_rse, ex_frz, ev_var, ev_cst, ev_glb, ev_bin, ev_neg, ev_cmp, ev_chn, ev_bo, ev_nt, ev_ite, ev_tup, ev_lst, ev_ix, ev_slc, ev_call, ev_b2, ev_isi, evs_nil, evs_cons, evr_nil, evr_cons, evB_one, evB_cons, pk, peek, nth, put, bindL_nil, bindL_cons, bindR_nil, bindR_cons, frzL, dat_v, dat_l, Res.dat_v, Res.dat_l, okb, exb, List.map_cons, List.map_nil, toI_int, toB_bool, bin_add, bin_sub, cmp_lt, cmp_le, cmp_gt, cmp_ge, cmp_eqi, cmp_nei, cmp_in, cmp_nin, b1_int, b1_lenl, b1_lent, b1_tupl, b1_tupt, b1_lstt, b1_lstl, ix_t0, ix_t1, isi_tup, isi_int, isi_nb, ev_b1v, ev_b1x, ev_b1c, ev_b1f, ev_b1b, ev_b1n, ev_b1t, ev_b1l, ev_b1s, if_true, if_false, Bool.false_eq_true, Bool.not_true, Bool.not_false, Bool.true_eq_false, c75 s hs, c70, ix2, e8]
    rw [comp_dT (l := rowsL n es none1 fun q => decide (q = s)) (e := fun d => .int (rowLen d)) (by rw [srcV_call]; simp only [exs_cons, exs_nil, ex_set, ex_sef, ex_unp, ex_par, ex_app, ex_ext, ex_six, ex_exp, ex_ret, ex_retv, ex_iff, ex_rse, ex_frz, ev_var, ev_cst, ev_glb, ev_bin, ev_neg, ev_cmp, ev_chn, ev_bo, ev_nt, ev_ite, ev_tup, ev_lst, ev_ix, ev_slc, ev_call, ev_b2, ev_isi, evs_nil, evs_cons, evr_nil, evr_cons, evB_one, evB_cons, pk, peek, nth, put, bindL_nil, bindL_cons, bindR_nil, bindR_cons, frzL, dat_v, dat_l, Res.dat_v, Res.dat_l, okb, exb, List.map_cons, List.map_nil, toI_int, toB_bool, bin_add, bin_sub, cmp_lt, cmp_le, cmp_gt, cmp_ge, cmp_eqi, cmp_nei, cmp_in, cmp_nin, b1_int, b1_lenl, b1_lent, b1_tupl, b1_tupt, b1_lstt, b1_lstl, ix_t0, ix_t1, isi_tup, isi_int, isi_nb, ev_b1v, ev_b1x, ev_b1c, ev_b1f, ev_b1b, ev_b1n, ev_b1t, ev_b1l, ev_b1s, if_true, if_false, Bool.false_eq_true, Bool.not_true, Bool.not_false, Bool.true_eq_false, c74]; rfl) (fun d hd => by
      unfold rowsL at hd
      obtain ⟨j, _, rfl⟩ := List.mem_map.mp hd
      simp only [exs_cons, exs_nil, ex_set, ex_sef, ex_unp, ex_par, ex_app, ex_ext, ex_six, ex_exp, ex_ret, ex_retv, ex_iff, ex_rse, ex_frz, ev_var, ev_cst, ev_glb, ev_bin, ev_neg, ev_cmp, ev_chn, ev_bo, ev_nt, ev_ite, ev_tup, ev_lst, ev_ix, ev_slc, ev_call, ev_b2, ev_isi, evs_nil, evs_cons, evr_nil, evr_cons, evB_one, evB_cons, pk, peek, nth, put, bindL_nil, bindL_cons, bindR_nil, bindR_cons, frzL, dat_v, dat_l, Res.dat_v, Res.dat_l, okb, exb, List.map_cons, List.map_nil, toI_int, toB_bool, bin_add, bin_sub, cmp_lt, cmp_le, cmp_gt, cmp_ge, cmp_eqi, cmp_nei, cmp_in, cmp_nin, b1_int, b1_lenl, b1_lent, b1_tupl, b1_tupt, b1_lstt, b1_lstl, ix_t0, ix_t1, isi_tup, isi_int, isi_nb, ev_b1v, ev_b1x, ev_b1c, ev_b1f, ev_b1b, ev_b1n, ev_b1t, ev_b1l, ev_b1s, if_true, if_false, Bool.false_eq_true, Bool.not_true, Bool.not_false, Bool.true_eq_false]
      rfl)]
    have e9 : ((rowsL n es none1 fun q => decide (q = s)).map fun d => PyData.int (rowLen d)) = ofI ((rowsL n es none1 fun q => decide (q = s)).map rowLen) := by
      unfold ofI
      rw [List.map_map]
      rfl
    have e10 : sumI ((rowsL n es none1 fun q => decide (q = s)).map rowLen) = (((st n (rc n es none1 s)).length : Nat) : Int) - 1 := fronts_sum hhi hs
    have e11 : (((((st n (rc n es none1 s)).length : Nat) : Int) - 1) == ((((st n (rc n es none1 s)).length : Nat) : Int) - 1)) = true := by simp
    rw [e9]
    have hmxa : mx n es none1 (fun q => decide (q = a)) = D := by
      have h1 := hmx a hF.2.1
      have h2 := mx_ge hF.2.2.1 (show ft n es none1 (fun q => decide (q = a)) b = some D from hF.2.2.2)
      omega
    have e12 : (((D : Nat) : Int) == ((D : Nat) : Int)) = true := by simp
    have e13 : ((((D : Nat) : Int) == 0) == es.isEmpty) = true := by
      cases es with
      | nil =>
        have : D = 0 := by
          cases D with
          | zero => rfl
          | succ D =>
            obtain ⟨z, _, ha, _⟩ := dd_pre hF.2.2.2
            simp [adj] at ha
        rw [this]
        rfl
      | cons e es =>
        have ht := w.tie e (by simp)
        have h1 : In n e.1 := ⟨by omega, by omega⟩
        have h2 : In n e.2 := ⟨by omega, by omega⟩
        obtain ⟨j, hj, hd⟩ := dd_nb (s := e.1) hhi h1 h2 (show adj (e :: es) e.1 e.2 = true by simp [adj]) dd_self
        have h3 := hF.all h1 h2 hd
        have h4 : j ≠ 0 := fun z => by
          rw [z] at hd
          have := dd_zero hd
          omega
        have : (((D : Nat) : Int) == 0) = false := beq_eq_false_iff_ne.mpr (by omega)
        rw [this]
        rfl
    simp only [exs_cons, exs_nil, ex_set, ex_sef, ex_unp, ex_par, ex_app, ex_ext, ex_six, ex_exp, ex_ret, ex_retv, ex_iff, ex_rse, ex_frz, ev_var, ev_cst, ev_glb, ev_bin, ev_neg, ev_cmp, ev_chn, ev_bo, ev_nt, ev_ite, ev_tup, ev_lst, ev_ix, ev_slc, ev_call, ev_b2, ev_isi, evs_nil, evs_cons, evr_nil, evr_cons, evB_one, evB_cons, pk, peek, nth, put, bindL_nil, bindL_cons, bindR_nil, bindR_cons, frzL, dat_v, dat_l, Res.dat_v, Res.dat_l, okb, exb, List.map_cons, List.map_nil, toI_int, toB_bool, bin_add, bin_sub, cmp_lt, cmp_le, cmp_gt, cmp_ge, cmp_eqi, cmp_nei, cmp_in, cmp_nin, b1_int, b1_lenl, b1_lent, b1_tupl, b1_tupt, b1_lstt, b1_lstl, ix_t0, ix_t1, isi_tup, isi_int, isi_nb, ev_b1v, ev_b1x, ev_b1c, ev_b1f, ev_b1b, ev_b1n, ev_b1t, ev_b1l, ev_b1s, if_true, if_false, Bool.false_eq_true, Bool.not_true, Bool.not_false, Bool.true_eq_false, b1_sumI, e10, ofI_len, e11, c70, c75 a hF.2.1, hmxa, e12, ix_wb1, cmp_eq_nilp, cmp_eqb, e13]
    exact yes_ok rfl
end HF

namespace HF.Tab
open HF PySem
def top (i : Nat) : Stmt := PySem.Challenge.pw_heldfires_k31_whole_ways_and_times.main.body.getD i (.Pass ⟨0, 0, 0, 0⟩)
def hole : Df := { nm := "", N := [], ps := [], st := .Pass ⟨0, 0, 0, 0⟩, fn := { pars := 0, slots := 0, body := .nil } }
def d_is_whole : Df := { nm := "is_whole", N := [("thing" : Str), ("low" : Str), ("high" : Str)], ps := [("thing" : Str), ("low" : Str), ("high" : Str)], st := top 7, fn := u_is_whole }
def d_is_tie : Df := { nm := "is_tie", N := [("thing" : Str), ("many" : Str), ("one" : Str)], ps := [("thing" : Str), ("many" : Str)], st := top 8, fn := u_is_tie }
def d_is_web : Df := { nm := "is_web", N := [("thing" : Str), ("one" : Str)], ps := [("thing" : Str)], st := top 9, fn := u_is_web }
def d_look_web : Df := { nm := "look_web", N := [("web" : Str)], ps := [("web" : Str)], st := top 10, fn := u_look_web }
def d_look_place : Df := { nm := "look_place", N := [("web" : Str), ("place" : Str)], ps := [("web" : Str), ("place" : Str)], st := top 11, fn := u_look_place }
def d_beside : Df := { nm := "beside", N := [("web" : Str), ("place" : Str), ("one" : Str), ("other" : Str)], ps := [("web" : Str), ("place" : Str)], st := top 12, fn := u_beside }
def d_depths : Df := { nm := "depths", N := [("web" : Str), ("start" : Str)], ps := [("web" : Str), ("start" : Str)], st := top 13, fn := u_depths }
def d_far_from : Df := { nm := "far_from", N := [("web" : Str), ("start" : Str), ("known" : Str), ("found" : Str), ("at" : Str), ("place" : Str)], ps := [("web" : Str), ("start" : Str)], st := top 14, fn := u_far_from }
def d_part_from : Df := { nm := "part_from", N := [("web" : Str), ("start" : Str), ("gone" : Str), ("found" : Str), ("left" : Str), ("place" : Str)], ps := [("web" : Str), ("start" : Str), ("gone" : Str)], st := top 16, fn := u_part_from }
def d_parts_without : Df := { nm := "parts_without", N := [("web" : Str), ("gone" : Str), ("made" : Str), ("place" : Str), ("part" : Str)], ps := [("web" : Str), ("gone" : Str)], st := top 17, fn := u_parts_without }
def d_parts : Df := { nm := "parts", N := [("web" : Str)], ps := [("web" : Str)], st := top 18, fn := u_parts }
def d_first_way : Df := { nm := "first_way", N := [("web" : Str), ("one" : Str), ("other" : Str), ("far" : Str), ("made" : Str), ("place" : Str)], ps := [("web" : Str), ("one" : Str), ("other" : Str)], st := top 19, fn := u_first_way }
def d_farthest : Df := { nm := "farthest", N := [("web" : Str), ("best" : Str), ("one" : Str), ("far" : Str), ("other" : Str)], ps := [("web" : Str)], st := top 20, fn := u_farthest }
def d_is_rising : Df := { nm := "is_rising", N := [("web" : Str), ("thing" : Str), ("one" : Str)], ps := [("web" : Str), ("thing" : Str)], st := top 22, fn := u_is_rising }
def d_stand_fits : Df := { nm := "stand_fits", N := [("web" : Str), ("thing" : Str), ("place" : Str), ("some" : Str)], ps := [("web" : Str), ("thing" : Str)], st := top 23, fn := u_stand_fits }
def d_is_stand : Df := { nm := "is_stand", N := [("web" : Str), ("thing" : Str)], ps := [("web" : Str), ("thing" : Str)], st := top 24, fn := u_is_stand }
def d_look_stand : Df := { nm := "look_stand", N := [("web" : Str), ("stand" : Str)], ps := [("web" : Str), ("stand" : Str)], st := top 25, fn := u_look_stand }
def d_threatened : Df := { nm := "threatened", N := [("web" : Str), ("stand" : Str), ("made" : Str), ("place" : Str), ("burnt" : Str), ("saved" : Str), ("one" : Str)], ps := [("web" : Str), ("stand" : Str)], st := top 26, fn := u_threatened }
def d_spread_once : Df := { nm := "spread_once", N := [("web" : Str), ("stand" : Str)], ps := [("web" : Str), ("stand" : Str)], st := top 27, fn := u_spread_once }
def d_times_of : Df := { nm := "times_of", N := [("web" : Str), ("stand" : Str), ("made" : Str), ("turn" : Str), ("place" : Str)], ps := [("web" : Str), ("stand" : Str)], st := top 29, fn := u_times_of }
def d_burn_times : Df := { nm := "burn_times", N := [("web" : Str), ("stand" : Str)], ps := [("web" : Str), ("stand" : Str)], st := top 30, fn := u_burn_times }
def d_fronts : Df := { nm := "fronts", N := [("web" : Str), ("stand" : Str), ("made" : Str), ("most" : Str), ("turn" : Str), ("place" : Str), ("time" : Str)], ps := [("web" : Str), ("stand" : Str)], st := top 31, fn := u_fronts }
def d_turns_left : Df := { nm := "turns_left", N := [("web" : Str), ("stand" : Str)], ps := [("web" : Str), ("stand" : Str)], st := top 32, fn := u_turns_left }
def d_safe_places : Df := { nm := "safe_places", N := [("web" : Str), ("stand" : Str), ("made" : Str), ("place" : Str)], ps := [("web" : Str), ("stand" : Str)], st := top 33, fn := u_safe_places }
def d_sources : Df := { nm := "sources", N := [("web" : Str), ("stand" : Str), ("place" : Str), ("made" : Str), ("one" : Str)], ps := [("web" : Str), ("stand" : Str), ("place" : Str)], st := top 34, fn := u_sources }
def d__law_cell : Df := { nm := "_law_cell", N := [("script" : Str), ("k" : Str)], ps := [("script" : Str), ("k" : Str)], st := top 36, fn := u__law_cell }
def d__law_pick : Df := { nm := "_law_pick", N := [("script" : Str), ("k" : Str), ("many" : Str), ("drawn" : Str)], ps := [("script" : Str), ("k" : Str), ("many" : Str)], st := top 37, fn := u__law_pick }
def d__law_web : Df := { nm := "_law_web", N := [("script" : Str), ("at" : Str), ("many" : Str), ("ties" : Str), ("way" : Str), ("place" : Str), ("few" : Str), ("one" : Str), ("other" : Str)], ps := [("script" : Str), ("at" : Str), ("many" : Str)], st := top 38, fn := u__law_web }
def d__law_loose : Df := { nm := "_law_loose", N := [("script" : Str), ("at" : Str), ("web" : Str), ("k" : Str), ("tie" : Str)], ps := [("script" : Str), ("at" : Str)], st := top 40, fn := u__law_loose }
/-- 127 law: script web start own place stand far road one other many part row -/
def f_law : Fn := law31
def d_law : Df := { nm := "law", N := [("script" : Str), ("web" : Str), ("start" : Str), ("own" : Str), ("place" : Str), ("stand" : Str), ("far" : Str), ("road" : Str), ("one" : Str), ("other" : Str), ("many" : Str), ("part" : Str), ("row" : Str)], ps := [("script" : Str)], st := top 41, fn := f_law }
def Ds : List Df := [d_is_whole, d_is_tie, d_is_web, d_look_web, d_beside, d_far_from, hole, d__law_cell, d__law_pick, d__law_web, hole, hole, hole, hole, hole, hole, hole, hole, hole, hole, hole, hole, hole, d_look_place, hole, d_depths, hole, hole, hole, hole, hole, hole, hole, hole, hole, hole, d_is_rising, d_stand_fits, d_is_stand, d_look_stand, hole, hole, d_threatened, hole, d_spread_once, hole, hole, hole, hole, hole, hole, hole, hole, hole, hole, hole, hole, hole, hole, hole, hole, hole, d_part_from, d_parts_without, d_parts, hole, hole, hole, d__law_loose, d_first_way, d_farthest, hole, d_times_of, d_burn_times, d_fronts, d_turns_left, d_safe_places, d_sources, hole, hole, hole, hole, hole, hole, hole, hole, hole, hole, hole, hole, hole, hole, hole, hole, hole, hole, hole, hole, hole, hole, hole, hole, hole, hole, hole, hole, hole, hole, hole, hole, hole, hole, hole, hole, hole, hole, hole, hole, hole, hole, hole, hole, hole, hole, hole, hole, hole, d_law]
def gs : List Str := [("MOST" : Str), ("" : Str)]
def G : List PySem.PyData := [(.int 7), (.str (PySem.Str.ofString ".*#"))]
def cs : List Str := [("FireError" : Str), ("NoWeb" : Str), ("NoStand" : Str), ("NoPlace" : Str), ("" : Str), ("" : Str), ("" : Str), ("" : Str), ("" : Str)]
theorem ok : Ds.all (dfOk (Ds.map (·.nm)) gs cs) = true := by decide +kernel
theorem lk : Looks (Ds.map (·.fn)) G := ⟨rfl, rfl, rfl, rfl, rfl, rfl⟩
theorem main : ∀ ns : List Int, ns.length ≤ 63 → cal (Ds.map (·.fn)) G 20 127 [.v (scr ns)] = .ok (.v (.bool true)) := fun ns _ =>
  main31 (T := Ds.map (·.fn)) (G := G) ⟨⟨lk, rfl, rfl, rfl, rfl, rfl, rfl⟩, rfl, rfl⟩ ⟨rfl, rfl⟩ ⟨lk, rfl, rfl, rfl⟩ rfl rfl rfl rfl rfl rfl rfl rfl rfl rfl rfl rfl ns

open PySem PySem.Spec PyProof.Rows L2
theorem all_mk {l : PySem.W.OpenLaw} {w : World} {K : PySem.W.Frag} {h : Heap} {mg : Str → Option Value} {fa : Addr} (X : K.In h) (Gm : h.Ns mainGlobals mg) (hfa : mg "law" = some (.ref fa))
    {f0 : Addr} {od0 an0 : Option Addr} {sl0 : Array (Option Value)} {oc0 kV0 dc0 pm0 cd0 ct0 : Value}
    {f1 : Addr} {od1 an1 : Option Addr} {sl1 : Array (Option Value)} {oc1 kV1 dc1 pm1 cd1 ct1 : Value}
    {f2 : Addr} {od2 an2 : Option Addr} {sl2 : Array (Option Value)} {oc2 kV2 dc2 pm2 cd2 ct2 : Value}
    {f3 : Addr} {od3 an3 : Option Addr} {sl3 : Array (Option Value)} {oc3 kV3 dc3 pm3 cd3 ct3 : Value}
    {f23 : Addr} {od23 an23 : Option Addr} {sl23 : Array (Option Value)} {oc23 kV23 dc23 pm23 cd23 ct23 : Value}
    {f4 : Addr} {od4 an4 : Option Addr} {sl4 : Array (Option Value)} {oc4 kV4 dc4 pm4 cd4 ct4 : Value}
    {f25 : Addr} {od25 an25 : Option Addr} {sl25 : Array (Option Value)} {oc25 kV25 dc25 pm25 cd25 ct25 : Value}
    {f5 : Addr} {od5 an5 : Option Addr} {sl5 : Array (Option Value)} {oc5 kV5 dc5 pm5 cd5 ct5 : Value}
    {f62 : Addr} {od62 an62 : Option Addr} {sl62 : Array (Option Value)} {oc62 kV62 dc62 pm62 cd62 ct62 : Value}
    {f63 : Addr} {od63 an63 : Option Addr} {sl63 : Array (Option Value)} {oc63 kV63 dc63 pm63 cd63 ct63 : Value}
    {f64 : Addr} {od64 an64 : Option Addr} {sl64 : Array (Option Value)} {oc64 kV64 dc64 pm64 cd64 ct64 : Value}
    {f69 : Addr} {od69 an69 : Option Addr} {sl69 : Array (Option Value)} {oc69 kV69 dc69 pm69 cd69 ct69 : Value}
    {f70 : Addr} {od70 an70 : Option Addr} {sl70 : Array (Option Value)} {oc70 kV70 dc70 pm70 cd70 ct70 : Value}
    {f36 : Addr} {od36 an36 : Option Addr} {sl36 : Array (Option Value)} {oc36 kV36 dc36 pm36 cd36 ct36 : Value}
    {f37 : Addr} {od37 an37 : Option Addr} {sl37 : Array (Option Value)} {oc37 kV37 dc37 pm37 cd37 ct37 : Value}
    {f38 : Addr} {od38 an38 : Option Addr} {sl38 : Array (Option Value)} {oc38 kV38 dc38 pm38 cd38 ct38 : Value}
    {f39 : Addr} {od39 an39 : Option Addr} {sl39 : Array (Option Value)} {oc39 kV39 dc39 pm39 cd39 ct39 : Value}
    {f42 : Addr} {od42 an42 : Option Addr} {sl42 : Array (Option Value)} {oc42 kV42 dc42 pm42 cd42 ct42 : Value}
    {f44 : Addr} {od44 an44 : Option Addr} {sl44 : Array (Option Value)} {oc44 kV44 dc44 pm44 cd44 ct44 : Value}
    {f72 : Addr} {od72 an72 : Option Addr} {sl72 : Array (Option Value)} {oc72 kV72 dc72 pm72 cd72 ct72 : Value}
    {f73 : Addr} {od73 an73 : Option Addr} {sl73 : Array (Option Value)} {oc73 kV73 dc73 pm73 cd73 ct73 : Value}
    {f74 : Addr} {od74 an74 : Option Addr} {sl74 : Array (Option Value)} {oc74 kV74 dc74 pm74 cd74 ct74 : Value}
    {f75 : Addr} {od75 an75 : Option Addr} {sl75 : Array (Option Value)} {oc75 kV75 dc75 pm75 cd75 ct75 : Value}
    {f76 : Addr} {od76 an76 : Option Addr} {sl76 : Array (Option Value)} {oc76 kV76 dc76 pm76 cd76 ct76 : Value}
    {f77 : Addr} {od77 an77 : Option Addr} {sl77 : Array (Option Value)} {oc77 kV77 dc77 pm77 cd77 ct77 : Value}
    {f7 : Addr} {od7 an7 : Option Addr} {sl7 : Array (Option Value)} {oc7 kV7 dc7 pm7 cd7 ct7 : Value}
    {f8 : Addr} {od8 an8 : Option Addr} {sl8 : Array (Option Value)} {oc8 kV8 dc8 pm8 cd8 ct8 : Value}
    {f9 : Addr} {od9 an9 : Option Addr} {sl9 : Array (Option Value)} {oc9 kV9 dc9 pm9 cd9 ct9 : Value}
    {f68 : Addr} {od68 an68 : Option Addr} {sl68 : Array (Option Value)} {oc68 kV68 dc68 pm68 cd68 ct68 : Value}
    {f127 : Addr} {od127 an127 : Option Addr} {sl127 : Array (Option Value)} {oc127 kV127 dc127 pm127 cd127 ct127 : Value}
    {t0 : PySem.Tok}
    {C0 : Addr}
    {C1 : Addr}
    {C2 : Addr}
    {C3 : Addr}
    (a0 : PySem.W.nsIn K mainGlobals "is_whole" = some (some (.ref f0)))
    (l0 : K.lookup f0 = some ⟨oc0, od0, .func (PySem.W.fnOf "is_whole" "is_whole" (L2.defArgs (top 7)) (L2.defBody (top 7)) (L2.defScope (top 7)) .none kV0 dc0 pm0 an0 cd0 ct0), sl0⟩)
    (c0 : PySem.W.codeIn K cd0 "is_whole" = true)
    (k0 : PySem.W.keepIn K (.ref f0) = true)
    (a1 : PySem.W.nsIn K mainGlobals "is_tie" = some (some (.ref f1)))
    (l1 : K.lookup f1 = some ⟨oc1, od1, .func (PySem.W.fnOf "is_tie" "is_tie" (L2.defArgs (top 8)) (L2.defBody (top 8)) (L2.defScope (top 8)) .none kV1 dc1 pm1 an1 cd1 ct1), sl1⟩)
    (c1 : PySem.W.codeIn K cd1 "is_tie" = true)
    (k1 : PySem.W.keepIn K (.ref f1) = true)
    (a2 : PySem.W.nsIn K mainGlobals "is_web" = some (some (.ref f2)))
    (l2 : K.lookup f2 = some ⟨oc2, od2, .func (PySem.W.fnOf "is_web" "is_web" (L2.defArgs (top 9)) (L2.defBody (top 9)) (L2.defScope (top 9)) .none kV2 dc2 pm2 an2 cd2 ct2), sl2⟩)
    (c2 : PySem.W.codeIn K cd2 "is_web" = true)
    (k2 : PySem.W.keepIn K (.ref f2) = true)
    (a3 : PySem.W.nsIn K mainGlobals "look_web" = some (some (.ref f3)))
    (l3 : K.lookup f3 = some ⟨oc3, od3, .func (PySem.W.fnOf "look_web" "look_web" (L2.defArgs (top 10)) (L2.defBody (top 10)) (L2.defScope (top 10)) .none kV3 dc3 pm3 an3 cd3 ct3), sl3⟩)
    (c3 : PySem.W.codeIn K cd3 "look_web" = true)
    (k3 : PySem.W.keepIn K (.ref f3) = true)
    (a23 : PySem.W.nsIn K mainGlobals "look_place" = some (some (.ref f23)))
    (l23 : K.lookup f23 = some ⟨oc23, od23, .func (PySem.W.fnOf "look_place" "look_place" (L2.defArgs (top 11)) (L2.defBody (top 11)) (L2.defScope (top 11)) .none kV23 dc23 pm23 an23 cd23 ct23), sl23⟩)
    (c23 : PySem.W.codeIn K cd23 "look_place" = true)
    (k23 : PySem.W.keepIn K (.ref f23) = true)
    (a4 : PySem.W.nsIn K mainGlobals "beside" = some (some (.ref f4)))
    (l4 : K.lookup f4 = some ⟨oc4, od4, .func (PySem.W.fnOf "beside" "beside" (L2.defArgs (top 12)) (L2.defBody (top 12)) (L2.defScope (top 12)) .none kV4 dc4 pm4 an4 cd4 ct4), sl4⟩)
    (c4 : PySem.W.codeIn K cd4 "beside" = true)
    (k4 : PySem.W.keepIn K (.ref f4) = true)
    (a25 : PySem.W.nsIn K mainGlobals "depths" = some (some (.ref f25)))
    (l25 : K.lookup f25 = some ⟨oc25, od25, .func (PySem.W.fnOf "depths" "depths" (L2.defArgs (top 13)) (L2.defBody (top 13)) (L2.defScope (top 13)) .none kV25 dc25 pm25 an25 cd25 ct25), sl25⟩)
    (c25 : PySem.W.codeIn K cd25 "depths" = true)
    (k25 : PySem.W.keepIn K (.ref f25) = true)
    (a5 : PySem.W.nsIn K mainGlobals "far_from" = some (some (.ref f5)))
    (l5 : K.lookup f5 = some ⟨oc5, od5, .func (PySem.W.fnOf "far_from" "far_from" (L2.defArgs (top 14)) (L2.defBody (top 14)) (L2.defScope (top 14)) .none kV5 dc5 pm5 an5 cd5 ct5), sl5⟩)
    (c5 : PySem.W.codeIn K cd5 "far_from" = true)
    (k5 : PySem.W.keepIn K (.ref f5) = true)
    (a62 : PySem.W.nsIn K mainGlobals "part_from" = some (some (.ref f62)))
    (l62 : K.lookup f62 = some ⟨oc62, od62, .func (PySem.W.fnOf "part_from" "part_from" (L2.defArgs (top 16)) (L2.defBody (top 16)) (L2.defScope (top 16)) .none kV62 dc62 pm62 an62 cd62 ct62), sl62⟩)
    (c62 : PySem.W.codeIn K cd62 "part_from" = true)
    (k62 : PySem.W.keepIn K (.ref f62) = true)
    (a63 : PySem.W.nsIn K mainGlobals "parts_without" = some (some (.ref f63)))
    (l63 : K.lookup f63 = some ⟨oc63, od63, .func (PySem.W.fnOf "parts_without" "parts_without" (L2.defArgs (top 17)) (L2.defBody (top 17)) (L2.defScope (top 17)) .none kV63 dc63 pm63 an63 cd63 ct63), sl63⟩)
    (c63 : PySem.W.codeIn K cd63 "parts_without" = true)
    (k63 : PySem.W.keepIn K (.ref f63) = true)
    (a64 : PySem.W.nsIn K mainGlobals "parts" = some (some (.ref f64)))
    (l64 : K.lookup f64 = some ⟨oc64, od64, .func (PySem.W.fnOf "parts" "parts" (L2.defArgs (top 18)) (L2.defBody (top 18)) (L2.defScope (top 18)) .none kV64 dc64 pm64 an64 cd64 ct64), sl64⟩)
    (c64 : PySem.W.codeIn K cd64 "parts" = true)
    (k64 : PySem.W.keepIn K (.ref f64) = true)
    (a69 : PySem.W.nsIn K mainGlobals "first_way" = some (some (.ref f69)))
    (l69 : K.lookup f69 = some ⟨oc69, od69, .func (PySem.W.fnOf "first_way" "first_way" (L2.defArgs (top 19)) (L2.defBody (top 19)) (L2.defScope (top 19)) .none kV69 dc69 pm69 an69 cd69 ct69), sl69⟩)
    (c69 : PySem.W.codeIn K cd69 "first_way" = true)
    (k69 : PySem.W.keepIn K (.ref f69) = true)
    (a70 : PySem.W.nsIn K mainGlobals "farthest" = some (some (.ref f70)))
    (l70 : K.lookup f70 = some ⟨oc70, od70, .func (PySem.W.fnOf "farthest" "farthest" (L2.defArgs (top 20)) (L2.defBody (top 20)) (L2.defScope (top 20)) .none kV70 dc70 pm70 an70 cd70 ct70), sl70⟩)
    (c70 : PySem.W.codeIn K cd70 "farthest" = true)
    (k70 : PySem.W.keepIn K (.ref f70) = true)
    (a36 : PySem.W.nsIn K mainGlobals "is_rising" = some (some (.ref f36)))
    (l36 : K.lookup f36 = some ⟨oc36, od36, .func (PySem.W.fnOf "is_rising" "is_rising" (L2.defArgs (top 22)) (L2.defBody (top 22)) (L2.defScope (top 22)) .none kV36 dc36 pm36 an36 cd36 ct36), sl36⟩)
    (c36 : PySem.W.codeIn K cd36 "is_rising" = true)
    (k36 : PySem.W.keepIn K (.ref f36) = true)
    (a37 : PySem.W.nsIn K mainGlobals "stand_fits" = some (some (.ref f37)))
    (l37 : K.lookup f37 = some ⟨oc37, od37, .func (PySem.W.fnOf "stand_fits" "stand_fits" (L2.defArgs (top 23)) (L2.defBody (top 23)) (L2.defScope (top 23)) .none kV37 dc37 pm37 an37 cd37 ct37), sl37⟩)
    (c37 : PySem.W.codeIn K cd37 "stand_fits" = true)
    (k37 : PySem.W.keepIn K (.ref f37) = true)
    (a38 : PySem.W.nsIn K mainGlobals "is_stand" = some (some (.ref f38)))
    (l38 : K.lookup f38 = some ⟨oc38, od38, .func (PySem.W.fnOf "is_stand" "is_stand" (L2.defArgs (top 24)) (L2.defBody (top 24)) (L2.defScope (top 24)) .none kV38 dc38 pm38 an38 cd38 ct38), sl38⟩)
    (c38 : PySem.W.codeIn K cd38 "is_stand" = true)
    (k38 : PySem.W.keepIn K (.ref f38) = true)
    (a39 : PySem.W.nsIn K mainGlobals "look_stand" = some (some (.ref f39)))
    (l39 : K.lookup f39 = some ⟨oc39, od39, .func (PySem.W.fnOf "look_stand" "look_stand" (L2.defArgs (top 25)) (L2.defBody (top 25)) (L2.defScope (top 25)) .none kV39 dc39 pm39 an39 cd39 ct39), sl39⟩)
    (c39 : PySem.W.codeIn K cd39 "look_stand" = true)
    (k39 : PySem.W.keepIn K (.ref f39) = true)
    (a42 : PySem.W.nsIn K mainGlobals "threatened" = some (some (.ref f42)))
    (l42 : K.lookup f42 = some ⟨oc42, od42, .func (PySem.W.fnOf "threatened" "threatened" (L2.defArgs (top 26)) (L2.defBody (top 26)) (L2.defScope (top 26)) .none kV42 dc42 pm42 an42 cd42 ct42), sl42⟩)
    (c42 : PySem.W.codeIn K cd42 "threatened" = true)
    (k42 : PySem.W.keepIn K (.ref f42) = true)
    (a44 : PySem.W.nsIn K mainGlobals "spread_once" = some (some (.ref f44)))
    (l44 : K.lookup f44 = some ⟨oc44, od44, .func (PySem.W.fnOf "spread_once" "spread_once" (L2.defArgs (top 27)) (L2.defBody (top 27)) (L2.defScope (top 27)) .none kV44 dc44 pm44 an44 cd44 ct44), sl44⟩)
    (c44 : PySem.W.codeIn K cd44 "spread_once" = true)
    (k44 : PySem.W.keepIn K (.ref f44) = true)
    (a72 : PySem.W.nsIn K mainGlobals "times_of" = some (some (.ref f72)))
    (l72 : K.lookup f72 = some ⟨oc72, od72, .func (PySem.W.fnOf "times_of" "times_of" (L2.defArgs (top 29)) (L2.defBody (top 29)) (L2.defScope (top 29)) .none kV72 dc72 pm72 an72 cd72 ct72), sl72⟩)
    (c72 : PySem.W.codeIn K cd72 "times_of" = true)
    (k72 : PySem.W.keepIn K (.ref f72) = true)
    (a73 : PySem.W.nsIn K mainGlobals "burn_times" = some (some (.ref f73)))
    (l73 : K.lookup f73 = some ⟨oc73, od73, .func (PySem.W.fnOf "burn_times" "burn_times" (L2.defArgs (top 30)) (L2.defBody (top 30)) (L2.defScope (top 30)) .none kV73 dc73 pm73 an73 cd73 ct73), sl73⟩)
    (c73 : PySem.W.codeIn K cd73 "burn_times" = true)
    (k73 : PySem.W.keepIn K (.ref f73) = true)
    (a74 : PySem.W.nsIn K mainGlobals "fronts" = some (some (.ref f74)))
    (l74 : K.lookup f74 = some ⟨oc74, od74, .func (PySem.W.fnOf "fronts" "fronts" (L2.defArgs (top 31)) (L2.defBody (top 31)) (L2.defScope (top 31)) .none kV74 dc74 pm74 an74 cd74 ct74), sl74⟩)
    (c74 : PySem.W.codeIn K cd74 "fronts" = true)
    (k74 : PySem.W.keepIn K (.ref f74) = true)
    (a75 : PySem.W.nsIn K mainGlobals "turns_left" = some (some (.ref f75)))
    (l75 : K.lookup f75 = some ⟨oc75, od75, .func (PySem.W.fnOf "turns_left" "turns_left" (L2.defArgs (top 32)) (L2.defBody (top 32)) (L2.defScope (top 32)) .none kV75 dc75 pm75 an75 cd75 ct75), sl75⟩)
    (c75 : PySem.W.codeIn K cd75 "turns_left" = true)
    (k75 : PySem.W.keepIn K (.ref f75) = true)
    (a76 : PySem.W.nsIn K mainGlobals "safe_places" = some (some (.ref f76)))
    (l76 : K.lookup f76 = some ⟨oc76, od76, .func (PySem.W.fnOf "safe_places" "safe_places" (L2.defArgs (top 33)) (L2.defBody (top 33)) (L2.defScope (top 33)) .none kV76 dc76 pm76 an76 cd76 ct76), sl76⟩)
    (c76 : PySem.W.codeIn K cd76 "safe_places" = true)
    (k76 : PySem.W.keepIn K (.ref f76) = true)
    (a77 : PySem.W.nsIn K mainGlobals "sources" = some (some (.ref f77)))
    (l77 : K.lookup f77 = some ⟨oc77, od77, .func (PySem.W.fnOf "sources" "sources" (L2.defArgs (top 34)) (L2.defBody (top 34)) (L2.defScope (top 34)) .none kV77 dc77 pm77 an77 cd77 ct77), sl77⟩)
    (c77 : PySem.W.codeIn K cd77 "sources" = true)
    (k77 : PySem.W.keepIn K (.ref f77) = true)
    (a7 : PySem.W.nsIn K mainGlobals "_law_cell" = some (some (.ref f7)))
    (l7 : K.lookup f7 = some ⟨oc7, od7, .func (PySem.W.fnOf "_law_cell" "_law_cell" (L2.defArgs (top 36)) (L2.defBody (top 36)) (L2.defScope (top 36)) .none kV7 dc7 pm7 an7 cd7 ct7), sl7⟩)
    (c7 : PySem.W.codeIn K cd7 "_law_cell" = true)
    (k7 : PySem.W.keepIn K (.ref f7) = true)
    (a8 : PySem.W.nsIn K mainGlobals "_law_pick" = some (some (.ref f8)))
    (l8 : K.lookup f8 = some ⟨oc8, od8, .func (PySem.W.fnOf "_law_pick" "_law_pick" (L2.defArgs (top 37)) (L2.defBody (top 37)) (L2.defScope (top 37)) .none kV8 dc8 pm8 an8 cd8 ct8), sl8⟩)
    (c8 : PySem.W.codeIn K cd8 "_law_pick" = true)
    (k8 : PySem.W.keepIn K (.ref f8) = true)
    (a9 : PySem.W.nsIn K mainGlobals "_law_web" = some (some (.ref f9)))
    (l9 : K.lookup f9 = some ⟨oc9, od9, .func (PySem.W.fnOf "_law_web" "_law_web" (L2.defArgs (top 38)) (L2.defBody (top 38)) (L2.defScope (top 38)) .none kV9 dc9 pm9 an9 cd9 ct9), sl9⟩)
    (c9 : PySem.W.codeIn K cd9 "_law_web" = true)
    (k9 : PySem.W.keepIn K (.ref f9) = true)
    (a68 : PySem.W.nsIn K mainGlobals "_law_loose" = some (some (.ref f68)))
    (l68 : K.lookup f68 = some ⟨oc68, od68, .func (PySem.W.fnOf "_law_loose" "_law_loose" (L2.defArgs (top 40)) (L2.defBody (top 40)) (L2.defScope (top 40)) .none kV68 dc68 pm68 an68 cd68 ct68), sl68⟩)
    (c68 : PySem.W.codeIn K cd68 "_law_loose" = true)
    (k68 : PySem.W.keepIn K (.ref f68) = true)
    (a127 : PySem.W.nsIn K mainGlobals "law" = some (some (.ref f127)))
    (l127 : K.lookup f127 = some ⟨oc127, od127, .func (PySem.W.fnOf "law" "law" (L2.defArgs (top 41)) (L2.defBody (top 41)) (L2.defScope (top 41)) .none kV127 dc127 pm127 an127 cd127 ct127), sl127⟩)
    (c127 : PySem.W.codeIn K cd127 "law" = true)
    (k127 : PySem.W.keepIn K (.ref f127) = true)
    (q0 : PySem.W.nsIn K mainGlobals "MOST" = some (some (.int (7) t0)))
    (ca0 : PySem.W.nsIn K mainGlobals "FireError" = some (some (.ref C0)))
    (cx0 : PySem.W.excIn K C0 [.type "ValueError", .type "Exception", .type "BaseException", .type "object"] "ValueError.__new__" = true)
    (ck0 : PySem.W.keepIn K (.ref C0) = true)
    (cb0 : PySem.W.subIn K (.ref C0) (.type "BaseException") = some true)
    (ct_0 : PySem.W.typeIn K (.ref C0) = some (.type "type"))
    (ca1 : PySem.W.nsIn K mainGlobals "NoWeb" = some (some (.ref C1)))
    (cx1 : PySem.W.excIn K C1 [.type "ValueError", .type "Exception", .type "BaseException", .type "object"] "ValueError.__new__" = true)
    (ck1 : PySem.W.keepIn K (.ref C1) = true)
    (cb1 : PySem.W.subIn K (.ref C1) (.type "BaseException") = some true)
    (ct_1 : PySem.W.typeIn K (.ref C1) = some (.type "type"))
    (ca2 : PySem.W.nsIn K mainGlobals "NoStand" = some (some (.ref C2)))
    (cx2 : PySem.W.excIn K C2 [.type "ValueError", .type "Exception", .type "BaseException", .type "object"] "ValueError.__new__" = true)
    (ck2 : PySem.W.keepIn K (.ref C2) = true)
    (cb2 : PySem.W.subIn K (.ref C2) (.type "BaseException") = some true)
    (ct_2 : PySem.W.typeIn K (.ref C2) = some (.type "type"))
    (ca3 : PySem.W.nsIn K mainGlobals "NoPlace" = some (some (.ref C3)))
    (cx3 : PySem.W.excIn K C3 [.type "ValueError", .type "Exception", .type "BaseException", .type "object"] "ValueError.__new__" = true)
    (ck3 : PySem.W.keepIn K (.ref C3) = true)
    (cb3 : PySem.W.subIn K (.ref C3) (.type "BaseException") = some true)
    (ct_3 : PySem.W.typeIn K (.ref C3) = some (.type "type"))
    (z0 : PySem.W.nsIn K mainGlobals "len" = some none)
    (z1 : PySem.W.nsIn K mainGlobals "sorted" = some none)
    (z2 : PySem.W.nsIn K mainGlobals "tuple" = some none)
    (z3 : PySem.W.nsIn K mainGlobals "list" = some none)
    (z4 : PySem.W.nsIn K mainGlobals "min" = some none)
    (z5 : PySem.W.nsIn K mainGlobals "max" = some none)
    (z6 : PySem.W.nsIn K mainGlobals "abs" = some none)
    (z7 : PySem.W.nsIn K mainGlobals "int" = some none)
    (z8 : PySem.W.nsIn K mainGlobals "sum" = some none)
    (z9 : PySem.W.nsIn K mainGlobals "all" = some none)
    (z10 : PySem.W.nsIn K mainGlobals "any" = some none)
    (z11 : PySem.W.nsIn K mainGlobals "set" = some none)
    (z12 : PySem.W.nsIn K mainGlobals "range" = some none)
    (z13 : PySem.W.nsIn K mainGlobals "enumerate" = some none)
    (z14 : PySem.W.nsIn K mainGlobals "isinstance" = some none)
    (z15 : PySem.W.nsIn K mainGlobals "bool" = some none)
    (z16 : PySem.W.nsIn K mainGlobals "str" = some none)
    (z17 : PySem.W.nsIn K mainGlobals "zip" = some none) :
    ∃ fd : FuncData, (∀ (s : Shared) (v : Value), BindsTo s fd ⟨[v], []⟩ [("script", v)]) ∧ ∀ base : Heap, K.In base → base.Ns mainGlobals mg → FnOk l.prog w K mg base (L2.CX l.prog w) 20 fa fd ["script"] (spL 63 K) := by
  have F0 : FnAt K mg d_is_whole := fn_one X Gm a0 l0 c0 k0 fun _ _ _ _ _ _ us hl => match us, hl with | [_, _, _], _ => rfl
  have F1 : FnAt K mg d_is_tie := fn_one X Gm a1 l1 c1 k1 fun _ _ _ _ _ _ us hl => match us, hl with | [_, _], _ => rfl
  have F2 : FnAt K mg d_is_web := fn_one X Gm a2 l2 c2 k2 fun _ _ _ _ _ _ us hl => match us, hl with | [_], _ => rfl
  have F3 : FnAt K mg d_look_web := fn_one X Gm a3 l3 c3 k3 fun _ _ _ _ _ _ us hl => match us, hl with | [_], _ => rfl
  have F23 : FnAt K mg d_look_place := fn_one X Gm a23 l23 c23 k23 fun _ _ _ _ _ _ us hl => match us, hl with | [_, _], _ => rfl
  have F4 : FnAt K mg d_beside := fn_one X Gm a4 l4 c4 k4 fun _ _ _ _ _ _ us hl => match us, hl with | [_, _], _ => rfl
  have F25 : FnAt K mg d_depths := fn_one X Gm a25 l25 c25 k25 fun _ _ _ _ _ _ us hl => match us, hl with | [_, _], _ => rfl
  have F5 : FnAt K mg d_far_from := fn_one X Gm a5 l5 c5 k5 fun _ _ _ _ _ _ us hl => match us, hl with | [_, _], _ => rfl
  have F62 : FnAt K mg d_part_from := fn_one X Gm a62 l62 c62 k62 fun _ _ _ _ _ _ us hl => match us, hl with | [_, _, _], _ => rfl
  have F63 : FnAt K mg d_parts_without := fn_one X Gm a63 l63 c63 k63 fun _ _ _ _ _ _ us hl => match us, hl with | [_, _], _ => rfl
  have F64 : FnAt K mg d_parts := fn_one X Gm a64 l64 c64 k64 fun _ _ _ _ _ _ us hl => match us, hl with | [_], _ => rfl
  have F69 : FnAt K mg d_first_way := fn_one X Gm a69 l69 c69 k69 fun _ _ _ _ _ _ us hl => match us, hl with | [_, _, _], _ => rfl
  have F70 : FnAt K mg d_farthest := fn_one X Gm a70 l70 c70 k70 fun _ _ _ _ _ _ us hl => match us, hl with | [_], _ => rfl
  have F36 : FnAt K mg d_is_rising := fn_one X Gm a36 l36 c36 k36 fun _ _ _ _ _ _ us hl => match us, hl with | [_, _], _ => rfl
  have F37 : FnAt K mg d_stand_fits := fn_one X Gm a37 l37 c37 k37 fun _ _ _ _ _ _ us hl => match us, hl with | [_, _], _ => rfl
  have F38 : FnAt K mg d_is_stand := fn_one X Gm a38 l38 c38 k38 fun _ _ _ _ _ _ us hl => match us, hl with | [_, _], _ => rfl
  have F39 : FnAt K mg d_look_stand := fn_one X Gm a39 l39 c39 k39 fun _ _ _ _ _ _ us hl => match us, hl with | [_, _], _ => rfl
  have F42 : FnAt K mg d_threatened := fn_one X Gm a42 l42 c42 k42 fun _ _ _ _ _ _ us hl => match us, hl with | [_, _], _ => rfl
  have F44 : FnAt K mg d_spread_once := fn_one X Gm a44 l44 c44 k44 fun _ _ _ _ _ _ us hl => match us, hl with | [_, _], _ => rfl
  have F72 : FnAt K mg d_times_of := fn_one X Gm a72 l72 c72 k72 fun _ _ _ _ _ _ us hl => match us, hl with | [_, _], _ => rfl
  have F73 : FnAt K mg d_burn_times := fn_one X Gm a73 l73 c73 k73 fun _ _ _ _ _ _ us hl => match us, hl with | [_, _], _ => rfl
  have F74 : FnAt K mg d_fronts := fn_one X Gm a74 l74 c74 k74 fun _ _ _ _ _ _ us hl => match us, hl with | [_, _], _ => rfl
  have F75 : FnAt K mg d_turns_left := fn_one X Gm a75 l75 c75 k75 fun _ _ _ _ _ _ us hl => match us, hl with | [_, _], _ => rfl
  have F76 : FnAt K mg d_safe_places := fn_one X Gm a76 l76 c76 k76 fun _ _ _ _ _ _ us hl => match us, hl with | [_, _], _ => rfl
  have F77 : FnAt K mg d_sources := fn_one X Gm a77 l77 c77 k77 fun _ _ _ _ _ _ us hl => match us, hl with | [_, _, _], _ => rfl
  have F7 : FnAt K mg d__law_cell := fn_one X Gm a7 l7 c7 k7 fun _ _ _ _ _ _ us hl => match us, hl with | [_, _], _ => rfl
  have F8 : FnAt K mg d__law_pick := fn_one X Gm a8 l8 c8 k8 fun _ _ _ _ _ _ us hl => match us, hl with | [_, _, _], _ => rfl
  have F9 : FnAt K mg d__law_web := fn_one X Gm a9 l9 c9 k9 fun _ _ _ _ _ _ us hl => match us, hl with | [_, _, _], _ => rfl
  have F68 : FnAt K mg d__law_loose := fn_one X Gm a68 l68 c68 k68 fun _ _ _ _ _ _ us hl => match us, hl with | [_, _], _ => rfl
  have F127 : FnAt K mg d_law := fn_one X Gm a127 l127 c127 k127 fun _ _ _ _ _ _ us hl => match us, hl with | [_], _ => rfl
  have hfn : AllFn K mg Ds := (.cons F0 (.cons F1 (.cons F2 (.cons F3 (.cons F4 (.cons F5 (.skip rfl (.cons F7 (.cons F8 (.cons F9 (.skip rfl (.skip rfl (.skip rfl (.skip rfl (.skip rfl (.skip rfl (.skip rfl (.skip rfl (.skip rfl (.skip rfl (.skip rfl (.skip rfl (.skip rfl (.cons F23 (.skip rfl (.cons F25 (.skip rfl (.skip rfl (.skip rfl (.skip rfl (.skip rfl (.skip rfl (.skip rfl (.skip rfl (.skip rfl (.skip rfl (.cons F36 (.cons F37 (.cons F38 (.cons F39 (.skip rfl (.skip rfl (.cons F42 (.skip rfl (.cons F44 (.skip rfl (.skip rfl (.skip rfl (.skip rfl (.skip rfl (.skip rfl (.skip rfl (.skip rfl (.skip rfl (.skip rfl (.skip rfl (.skip rfl (.skip rfl (.skip rfl (.skip rfl (.skip rfl (.skip rfl (.cons F62 (.cons F63 (.cons F64 (.skip rfl (.skip rfl (.skip rfl (.cons F68 (.cons F69 (.cons F70 (.skip rfl (.cons F72 (.cons F73 (.cons F74 (.cons F75 (.cons F76 (.cons F77 (.skip rfl (.skip rfl (.skip rfl (.skip rfl (.skip rfl (.skip rfl (.skip rfl (.skip rfl (.skip rfl (.skip rfl (.skip rfl (.skip rfl (.skip rfl (.skip rfl (.skip rfl (.skip rfl (.skip rfl (.skip rfl (.skip rfl (.skip rfl (.skip rfl (.skip rfl (.skip rfl (.skip rfl (.skip rfl (.skip rfl (.skip rfl (.skip rfl (.skip rfl (.skip rfl (.skip rfl (.skip rfl (.skip rfl (.skip rfl (.skip rfl (.skip rfl (.skip rfl (.skip rfl (.skip rfl (.skip rfl (.skip rfl (.skip rfl (.skip rfl (.skip rfl (.skip rfl (.skip rfl (.skip rfl (.skip rfl (.skip rfl (.cons F127 .nil))))))))))))))))))))))))))))))))))))))))))))))))))))))))))))))))))))))))))))))))))))))))))))))))))))))))))))))))))))))))))))))))
  have hcon : AllCon K mg gs G := (.cons (con_int X Gm q0) (.skip rfl .nil))
  have hcl : AllCls K mg cs [C0, C1, C2, C3, 0, 0, 0, 0, 0] := (.cons (cls_one X Gm ca0 cx0 ck0 cb0 ct_0) (.cons (cls_one X Gm ca1 cx1 ck1 cb1 ct_1) (.cons (cls_one X Gm ca2 cx2 ck2 cb2 ct_2) (.cons (cls_one X Gm ca3 cx3 ck3 cb3 ct_3) (.skip rfl (.skip rfl (.skip rfl (.skip rfl (.skip rfl .nil)))))))))
  have hb : ∀ x ∈ bnames, mg x = none := by
    refine blt_of X Gm fun x hx => ?_
    simp only [bnames, List.mem_cons, List.not_mem_nil, or_false] at hx
    rcases hx with rfl | rfl | rfl | rfl | rfl | rfl | rfl | rfl | rfl | rfl | rfl | rfl | rfl | rfl | rfl | rfl | rfl | rfl
    · exact z0
    · exact z1
    · exact z2
    · exact z3
    · exact z4
    · exact z5
    · exact z6
    · exact z7
    · exact z8
    · exact z9
    · exact z10
    · exact z11
    · exact z12
    · exact z13
    · exact z14
    · exact z15
    · exact z16
    · exact z17
  obtain ⟨fd, h1, h2⟩ := law_all (P := l.prog) (w := w) (n := 20) (m := 63) (f := 127) (d := d_law) hb hcon hfn hcl ok (by decide) rfl rfl main hfa
  exact ⟨fd, h1, fun base _ _ => h2 base⟩
end HF.Tab
open PySem PySem.W PyProof.Rows
set_option maxRecDepth 100000 in
set_option maxHeartbeats 0 in
theorem PySem.Challenge.cw_heldfires_k31_whole_ways_and_times_holds : PySem.Challenge.rw_heldfires_k31_whole_ways_and_times.Holds := by
  w_on; o_law; k_head; (case hw => w_witness2)
  k_fill
  refine HF.walkL (l := PySem.Challenge.rw_heldfires_k31_whole_ways_and_times) (k := 20) (m := 63) rfl (by decide) rfl ⟨rfl, by decide, by decide⟩ (fun w h Y => PySem.W.kIn_of Y) ?F
  case F =>
    intro w mg fa h KX G hmg
    refine' HF.Tab.all_mk KX G hmg ?a0 ?l0 ?c0 ?k0 ?a1 ?l1 ?c1 ?k1 ?a2 ?l2 ?c2 ?k2 ?a3 ?l3 ?c3 ?k3 ?a23 ?l23 ?c23 ?k23 ?a4 ?l4 ?c4 ?k4 ?a25 ?l25 ?c25 ?k25 ?a5 ?l5 ?c5 ?k5 ?a62 ?l62 ?c62 ?k62 ?a63 ?l63 ?c63 ?k63 ?a64 ?l64 ?c64 ?k64 ?a69 ?l69 ?c69 ?k69 ?a70 ?l70 ?c70 ?k70 ?a36 ?l36 ?c36 ?k36 ?a37 ?l37 ?c37 ?k37 ?a38 ?l38 ?c38 ?k38 ?a39 ?l39 ?c39 ?k39 ?a42 ?l42 ?c42 ?k42 ?a44 ?l44 ?c44 ?k44 ?a72 ?l72 ?c72 ?k72 ?a73 ?l73 ?c73 ?k73 ?a74 ?l74 ?c74 ?k74 ?a75 ?l75 ?c75 ?k75 ?a76 ?l76 ?c76 ?k76 ?a77 ?l77 ?c77 ?k77 ?a7 ?l7 ?c7 ?k7 ?a8 ?l8 ?c8 ?k8 ?a9 ?l9 ?c9 ?k9 ?a68 ?l68 ?c68 ?k68 ?a127 ?l127 ?c127 ?k127 ?q0 ?ca0 ?cx0 ?ck0 ?cb0 ?ct_0 ?ca1 ?cx1 ?ck1 ?cb1 ?ct_1 ?ca2 ?cx2 ?ck2 ?cb2 ?ct_2 ?ca3 ?cx3 ?ck3 ?cb3 ?ct_3 ?z0 ?z1 ?z2 ?z3 ?z4 ?z5 ?z6 ?z7 ?z8 ?z9 ?z10 ?z11 ?z12 ?z13 ?z14 ?z15 ?z16 ?z17
    (case a0 => k_is)
    (case l0 => k_is)
    (case c0 => k_is)
    (case k0 => k_is)
    (case a1 => k_is)
    (case l1 => k_is)
    (case c1 => k_is)
    (case k1 => k_is)
    (case a2 => k_is)
    (case l2 => k_is)
    (case c2 => k_is)
    (case k2 => k_is)
    (case a3 => k_is)
    (case l3 => k_is)
    (case c3 => k_is)
    (case k3 => k_is)
    (case a23 => k_is)
    (case l23 => k_is)
    (case c23 => k_is)
    (case k23 => k_is)
    (case a4 => k_is)
    (case l4 => k_is)
    (case c4 => k_is)
    (case k4 => k_is)
    (case a25 => k_is)
    (case l25 => k_is)
    (case c25 => k_is)
    (case k25 => k_is)
    (case a5 => k_is)
    (case l5 => k_is)
    (case c5 => k_is)
    (case k5 => k_is)
    (case a62 => k_is)
    (case l62 => k_is)
    (case c62 => k_is)
    (case k62 => k_is)
    (case a63 => k_is)
    (case l63 => k_is)
    (case c63 => k_is)
    (case k63 => k_is)
    (case a64 => k_is)
    (case l64 => k_is)
    (case c64 => k_is)
    (case k64 => k_is)
    (case a69 => k_is)
    (case l69 => k_is)
    (case c69 => k_is)
    (case k69 => k_is)
    (case a70 => k_is)
    (case l70 => k_is)
    (case c70 => k_is)
    (case k70 => k_is)
    (case a36 => k_is)
    (case l36 => k_is)
    (case c36 => k_is)
    (case k36 => k_is)
    (case a37 => k_is)
    (case l37 => k_is)
    (case c37 => k_is)
    (case k37 => k_is)
    (case a38 => k_is)
    (case l38 => k_is)
    (case c38 => k_is)
    (case k38 => k_is)
    (case a39 => k_is)
    (case l39 => k_is)
    (case c39 => k_is)
    (case k39 => k_is)
    (case a42 => k_is)
    (case l42 => k_is)
    (case c42 => k_is)
    (case k42 => k_is)
    (case a44 => k_is)
    (case l44 => k_is)
    (case c44 => k_is)
    (case k44 => k_is)
    (case a72 => k_is)
    (case l72 => k_is)
    (case c72 => k_is)
    (case k72 => k_is)
    (case a73 => k_is)
    (case l73 => k_is)
    (case c73 => k_is)
    (case k73 => k_is)
    (case a74 => k_is)
    (case l74 => k_is)
    (case c74 => k_is)
    (case k74 => k_is)
    (case a75 => k_is)
    (case l75 => k_is)
    (case c75 => k_is)
    (case k75 => k_is)
    (case a76 => k_is)
    (case l76 => k_is)
    (case c76 => k_is)
    (case k76 => k_is)
    (case a77 => k_is)
    (case l77 => k_is)
    (case c77 => k_is)
    (case k77 => k_is)
    (case a7 => k_is)
    (case l7 => k_is)
    (case c7 => k_is)
    (case k7 => k_is)
    (case a8 => k_is)
    (case l8 => k_is)
    (case c8 => k_is)
    (case k8 => k_is)
    (case a9 => k_is)
    (case l9 => k_is)
    (case c9 => k_is)
    (case k9 => k_is)
    (case a68 => k_is)
    (case l68 => k_is)
    (case c68 => k_is)
    (case k68 => k_is)
    (case a127 => k_is)
    (case l127 => k_is)
    (case c127 => k_is)
    (case k127 => k_is)
    (case q0 => k_is)
    (case ca0 => k_is)
    (case cx0 => k_exc)
    (case ck0 => k_is)
    (case cb0 => k_is)
    (case ct_0 => k_is)
    (case ca1 => k_is)
    (case cx1 => k_exc)
    (case ck1 => k_is)
    (case cb1 => k_is)
    (case ct_1 => k_is)
    (case ca2 => k_is)
    (case cx2 => k_exc)
    (case ck2 => k_is)
    (case cb2 => k_is)
    (case ct_2 => k_is)
    (case ca3 => k_is)
    (case cx3 => k_exc)
    (case ck3 => k_is)
    (case cb3 => k_is)
    (case ct_3 => k_is)
    (case z0 => k_is)
    (case z1 => k_is)
    (case z2 => k_is)
    (case z3 => k_is)
    (case z4 => k_is)
    (case z5 => k_is)
    (case z6 => k_is)
    (case z7 => k_is)
    (case z8 => k_is)
    (case z9 => k_is)
    (case z10 => k_is)
    (case z11 => k_is)
    (case z12 => k_is)
    (case z13 => k_is)
    (case z14 => k_is)
    (case z15 => k_is)
    (case z16 => k_is)
    (case z17 => k_is)