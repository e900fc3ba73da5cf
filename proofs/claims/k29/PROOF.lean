import PyProof.Rows.All
import Wide.All
import OpenK.AllK
import Wide.FinOn
import HandS.List
import HandS.ForMost
import HandS.Lambda
import HandS.TupAny
import HandS.SortInts
import HandS.IsInst
import HandS.Exc
import HandS.ExcOwn
import HandS.Small
import HandS.Conv
import HandS.TupLen
import HandS.SortRule
import KE.KTupSum
import HandS.TryOnly
import PyProof.TupleOps
import KE.SortKeyHeap
import HandS.TryMany
import HandS.ExcInit
import HandS.ExcField
import HandS.Iter
import HandS.WordsExc
import KE.KExcSuper
import HandS.ExcIs
import HandS.Ends
import KE.KNestM
import HandS.EndTab
import KE.RegKSuper
import PySem.Challenge.RW_whoevercomes_k29_pieces_laid_side_by_sid
set_option Elab.async false
set_option linter.all false
set_option maxRecDepth 100000
/-! GCore -/
set_option maxRecDepth 100000
set_option maxHeartbeats 4000000
namespace G
open PySem (Str)

/-- data: lists are either plain (never changed again) or at a place of the store -/
inductive D where
  | non
  | bl (b : Bool)
  | int (i : Int)
  | str (x : Str)
  | tup (xs : List D)
  | lst (xs : List D)
  | scr (ns : List Int)
  | ptr (n : Nat)
  deriving Inhabited

/-- what stands at a place of the store -/
inductive Ob where
  | dead
  | lst (xs : List D)
  | ins (c : Nat) (fs : List (Nat × D))
  /-- a dict, its keys ints and texts (or tuples of these); one that a loop walks: read, not written -/
  | dic (tk : Bool) (kvs : List (D × D))
  | fdic (tk : Bool) (kvs : List (D × D))

/-- it may be changed -/
def Ob.hot : Ob → Bool
  | .dead => false
  | .fdic _ _ => false
  | _ => true

abbrev Store := List Ob
abbrev Rho := List (Option D)

inductive Res (α : Type) where
  | ok (a : α) (M : Store)
  | err (c : Nat) (fs : List D) (M : Store)
  | stuck

def Res.bind {α β : Type} (r : Res α) (f : α → Store → Res β) : Res β :=
  match r with
  | .ok a M => f a M
  | .err c fs M => .err c fs M
  | .stuck => .stuck

@[simp] theorem bind_ok {α β : Type} (a : α) (M : Store) (f : α → Store → Res β) : (Res.ok a M).bind f = f a M := id rfl
@[simp] theorem bind_err {α β : Type} (c : Nat) (fs : List D) (M : Store) (f : α → Store → Res β) : (Res.err c fs M : Res α).bind f = .err c fs M := id rfl
@[simp] theorem bind_stuck {α β : Type} (f : α → Store → Res β) : (Res.stuck : Res α).bind f = .stuck := id rfl

/-- within a comprehension nothing may be raised -/
def Res.noerr {α : Type} : Res α → Res α
  | .err _ _ _ => .stuck
  | r => r
@[simp] theorem noerr_ok {α : Type} (a : α) (M : Store) : (Res.ok a M).noerr = .ok a M := id rfl
@[simp] theorem noerr_err {α : Type} (c : Nat) (fs : List D) (M : Store) : (Res.err c fs M : Res α).noerr = .stuck := id rfl
@[simp] theorem noerr_stuck {α : Type} : (Res.stuck : Res α).noerr = .stuck := id rfl

inductive Bop where
  | add | sub | mul | fdiv | mod | pow | band | bor | bxor | shl | shr
  deriving DecidableEq
inductive Cop where
  | lt | le | gt | ge | eq | ne | inn | nin
  deriving DecidableEq

/-- the items of a list, plain or in the store -/
def listOf (M : Store) : D → Option (List D)
  | .lst xs => some xs
  | .ptr n => match M[n]? with
    | some (.lst xs) => some xs
    | _ => none
  | _ => none
/-- .. of a list, a tuple, the script -/
def seqOf (M : Store) : D → Option (List D)
  | .lst xs => some xs
  | .tup xs => some xs
  | .scr ns => some (ns.map D.int)
  | .ptr n => match M[n]? with
    | some (.lst xs) => some xs
    | _ => none
  | _ => none
def intOf : D → Option Int
  | .int i => some i
  | _ => none
def intsOf : List D → Option (List Int)
  | [] => some []
  | .int i :: r => (intsOf r).map (i :: ·)
  | _ :: _ => none
@[simp] theorem intsOf_nil : intsOf [] = some [] := id rfl
@[simp] theorem intsOf_cons (i : Int) (r : List D) : intsOf (.int i :: r) = (intsOf r).map (i :: ·) := id rfl
@[simp] theorem intsOf_map (ns : List Int) : intsOf (ns.map D.int) = some ns := by
  induction ns with
  | nil => rfl
  | cons n r ih => rw [List.map_cons, intsOf_cons, ih]; rfl

/-- small enough and without store places, to be compared -/
def okd : Nat → D → Bool
  | _, .non => true
  | _, .bl _ => true
  | _, .int _ => true
  | _, .str x => PySem.PyData.strOk x
  | 0, .tup _ => false
  | 0, .lst _ => false
  | k + 1, .tup xs => xs.all (okd k)
  | k + 1, .lst xs => xs.all (okd k)
  | _, .scr _ => false
  | _, .ptr _ => false
mutual
def eqd : D → D → Bool
  | .non, .non => true
  | .bl a, .bl b => a == b
  | .bl a, .int j => (if a then 1 else 0) == j
  | .int i, .bl b => i == (if b then 1 else 0)
  | .int i, .int j => i == j
  | .str x, .str y => x == y
  | .lst xs, .lst ys => eqds xs ys
  | .tup xs, .tup ys => eqds xs ys
  | _, _ => false
def eqds : List D → List D → Bool
  | [], [] => true
  | x :: xs, y :: ys => eqd x y && eqds xs ys
  | _, _ => false
end
/-- a list of the store is compared by its items -/
def top (M : Store) : D → D
  | .ptr n => match M[n]? with
    | some (.lst xs) => .lst xs
    | _ => .ptr n
  | d => d
/-- flat things, for 'in' -/
def flatd : D → Bool
  | .non => true
  | .bl _ => true
  | .int _ => true
  | .str _ => true
  | _ => false
def flateq : D → D → Bool
  | .non, .non => true
  | .bl a, .bl b => a == b
  | .bl a, .int b => (if a then 1 else 0) == b
  | .int a, .bl b => a == (if b then 1 else 0)
  | .int a, .int b => a == b
  | .str a, .str b => a == b
  | _, _ => false

def big : Nat := PySem.sizeLine
def isKey1 : D → Bool
  | .int _ => true
  | .str _ => true
  | _ => false
def isKey : Bool → D → Bool
  | false, d => isKey1 d
  | true, .tup ks => ks.all isKey1
  | true, _ => false
def dget (kvs : List (D × D)) (k : D) : Option D := (kvs.find? fun p => eqd p.1 k).map (·.2)
def dput (kvs : List (D × D)) (k v : D) : List (D × D) := if kvs.any fun p => eqd p.1 k then kvs.map fun p => if eqd p.1 k then (p.1, v) else p else kvs ++ [(k, v)]
/-- a dict of the store -/
def dicOf (M : Store) : D → Option (Bool × List (D × D))
  | .ptr n => match M[n]? with
    | some (.dic tk kvs) => some (tk, kvs)
    | some (.fdic tk kvs) => some (tk, kvs)
    | _ => none
  | _ => none

def binop (o : Bop) (x y : D) (M : Store) : Res D :=
  match o, x, y with
  | .add, .int i, .int j => .ok (.int (i + j)) M
  | .sub, .int i, .int j => .ok (.int (i - j)) M
  | .mul, .int i, .int j => if (-18446744073709551616 < i ∧ i < 18446744073709551616) ∨ (-18446744073709551616 < j ∧ j < 18446744073709551616) then .ok (.int (i * j)) M else .stuck
  | .fdiv, .int i, .int j => if 0 < j ∧ j < 1073741824 then .ok (.int (i / j)) M else .stuck
  | .mod, .int i, .int j => if 0 < j then .ok (.int (i % j)) M else .stuck
  | .pow, .int i, .int j => if 0 ≤ j ∧ j ≤ 1000000 ∧ i.natAbs < 18446744073709551616 then .ok (.int (i ^ j.toNat)) M else .stuck
  | .shl, .int i, .int j => if 0 ≤ j ∧ j ≤ 1000000 ∧ i.natAbs < 18446744073709551616 then .ok (.int (i * 2 ^ j.toNat)) M else .stuck
  | .shr, .int i, .int j => if 0 ≤ j then .ok (.int (i / 2 ^ j.toNat)) M else .stuck
  | .band, .int i, .int j => .ok (.int (PySem.Builtin.bitAnd i j)) M
  | .bor, .int i, .int j => .ok (.int (PySem.Builtin.bitOr i j)) M
  | .bxor, .int i, .int j => .ok (.int (PySem.Builtin.bitXor i j)) M
  | .add, .str i, .str j => if i.length + j.length ≤ big then .ok (.str (i ++ j)) M else .stuck
  | .add, .tup xs, .tup ys => if xs.length + ys.length ≤ big then .ok (.tup (xs ++ ys)) M else .stuck
  | .add, x, y => match listOf M x, listOf M y with
    | some xs, some ys => if xs.length + ys.length ≤ big then .ok (.lst (xs ++ ys)) M else .stuck
    | _, _ => .stuck
  | .mul, x, .int k => match listOf M x with
    | some xs => if -16777216 ≤ k ∧ k ≤ 16777216 ∧ xs.length * k.toNat ≤ big then .ok (.lst (List.replicate k.toNat xs).flatten) M else .stuck
    | none => .stuck
  | _, _, _ => .stuck

def cmpop (o : Cop) (x y : D) (M : Store) : Res D :=
  match o, x, y with
  | .lt, .int i, .int j => .ok (.bl (decide (i < j))) M
  | .le, .int i, .int j => .ok (.bl (decide (i ≤ j))) M
  | .gt, .int i, .int j => .ok (.bl (decide (j < i))) M
  | .ge, .int i, .int j => .ok (.bl (decide (j ≤ i))) M
  | .eq, x, y => if okd 12 (top M x) ∧ okd 12 (top M y) then .ok (.bl (eqd (top M x) (top M y))) M else .stuck
  | .ne, x, y => if okd 12 (top M x) ∧ okd 12 (top M y) then .ok (.bl (!eqd (top M x) (top M y))) M else .stuck
  | .inn, x, y => match seqOf M y with
    | some ys => if flatd x ∧ ys.all flatd then .ok (.bl (ys.any fun y => flateq y x)) M else .stuck
    | none => match dicOf M y with
      | some kv => if isKey kv.1 x then .ok (.bl (dget kv.2 x).isSome) M else .stuck
      | none => .stuck
  | .nin, x, y => match seqOf M y with
    | some ys => if flatd x ∧ ys.all flatd then .ok (.bl (!(ys.any fun y => flateq y x))) M else .stuck
    | none => match dicOf M y with
      | some kv => if isKey kv.1 x then .ok (.bl (!(dget kv.2 x).isSome)) M else .stuck
      | none => .stuck
  | _, _, _ => .stuck

/-- the truth of a value -/
def dicN (M : Store) : D → Option (Bool × List (D × D))
  | .ptr n => match M[n]? with
    | some (.dic tk kvs) => some (tk, kvs)
    | _ => none
  | _ => none
def truth (M : Store) : D → Option Bool
  | .non => some false
  | .bl b => some b
  | .int i => some (i != 0)
  | .lst xs => some (!xs.isEmpty)
  | .tup xs => some (!xs.isEmpty)
  | .ptr n => match M[n]? with
    | some (.lst xs) => some (!xs.isEmpty)
    | _ => none
  | _ => none

def ixd (M : Store) (x i : D) : Res D :=
  match dicOf M x with
  | some kv => if isKey kv.1 i then match dget kv.2 i with
      | some v => .ok v M
      | none => .stuck
    else .stuck
  | none => match i with
  | .int i => match seqOf M x with
    | some xs => match L2.atI xs i with
      | some v => .ok v M
      | none => .stuck
    | none => .stuck
  | _ => .stuck
def cutd (xs : List D) (lo hi : Option Int) : List D := (xs.drop (HT.sIx xs.length 0 lo)).take (HT.sIx xs.length xs.length hi - HT.sIx xs.length 0 lo)
def sld (M : Store) (x : D) (lo hi : Option Int) : Res D :=
  match x with
  | .tup xs => .ok (.tup (cutd xs lo hi)) M
  | .scr ns => .ok (.lst (cutd (ns.map D.int) lo hi)) M
  | x => match listOf M x with
    | some xs => .ok (.lst (cutd xs lo hi)) M
    | none => .stuck

inductive Bi where
  | len | sum | max1 | min1 | max2 | min2 | abs | int | sorted (hot : Bool) | list (hot : Bool) | tuple | any | all
  deriving DecidableEq
/-- the greatest, the least -/
def maxOf (ns : List Int) : Option Int := ns.max?
def minOf (ns : List Int) : Option Int := ns.min?
def sortI (ns : List Int) : List Int := ns.mergeSort (fun a b => decide (a ≤ b))
/-- pairs of ints -/
def pairsOf : List D → Option (List (Int × Int))
  | [] => some []
  | .tup [.int i, .int j] :: r => (pairsOf r).map ((i, j) :: ·)
  | _ :: _ => none
def pairD (p : Int × Int) : D := .tup [.int p.1, .int p.2]
def sortP (ps : List (Int × Int)) : List (Int × Int) := ps.mergeSort (fun a b => decide (a.1 < b.1) || (decide (a.1 = b.1) && decide (a.2 ≤ b.2)))
/-- tuples of ints: by length, then in the order of words -/
def leT (a b : List Int) : Bool := decide (a.length < b.length) || (decide (a.length = b.length) && !decide (b < a))
def sortT (ps : List (List Int)) : List (List Int) := ps.mergeSort leT
def tupD (x : List Int) : D := .tup (x.map D.int)
def tupsOf : List D → Option (List (List Int))
  | [] => some []
  | .tup ds :: r => match intsOf ds, tupsOf r with
    | some x, some ps => some (x :: ps)
    | _, _ => none
  | _ :: _ => none
def boolsOf : List D → Option (List Bool)
  | [] => some []
  | .bl i :: r => (boolsOf r).map (i :: ·)
  | _ :: _ => none
/-- a new list: plain, or at a new place -/
def newL (hot : Bool) (xs : List D) (M : Store) : Res D := if hot then .ok (.ptr M.length) (M ++ [.lst xs]) else .ok (.lst xs) M
def birun (f : Bi) (as : List D) (M : Store) : Res D :=
  match f, as with
  | .len, [x] => match seqOf M x with
    | some xs => .ok (.int xs.length) M
    | none => match dicN M x with
      | some kv => .ok (.int kv.2.length) M
      | none => .stuck
  | .sum, [x] => match (seqOf M x).bind intsOf with
    | some ns => .ok (.int ns.sum) M
    | none => .stuck
  | .max1, [x] => match ((seqOf M x).bind intsOf).bind maxOf with
    | some m => .ok (.int m) M
    | none => .stuck
  | .min1, [x] => match ((seqOf M x).bind intsOf).bind minOf with
    | some m => .ok (.int m) M
    | none => .stuck
  | .max2, [.int i, .int j] => .ok (.int (if j > i then j else i)) M
  | .min2, [.int i, .int j] => .ok (.int (if j < i then j else i)) M
  | .abs, [.int i] => .ok (.int (if i < 0 then -i else i)) M
  | .int, [.int i] => .ok (.int i) M
  | .sorted hot, [x] => match (listOf M x).bind intsOf with
    | some ns => newL hot ((sortI ns).map D.int) M
    | none => match (listOf M x).bind pairsOf with
      | some ps => newL hot ((sortP ps).map pairD) M
      | none => .stuck
  | .list hot, [x] => match seqOf M x with
    | some xs => newL hot xs M
    | none => match dicN M x with
      | some kv => newL hot (kv.2.map (·.1)) M
      | none => .stuck
  | .tuple, [x] => match seqOf M x with
    | some xs => .ok (.tup xs) M
    | none => .stuck
  | .any, [x] => match (listOf M x).bind boolsOf with
    | some bs => .ok (.bl (bs.any id)) M
    | none => .stuck
  | .all, [x] => match (listOf M x).bind boolsOf with
    | some bs => .ok (.bl (bs.all id)) M
    | none => .stuck
  | _, _ => .stuck

inductive Bm where
  | append | popAt | pop | index
  deriving DecidableEq
def bmrun (f : Bm) (o : D) (as : List D) (M : Store) : Res D :=
  match f, o, as with
  | .append, .ptr n, [y] => match M[n]? with
    | some (.lst xs) => if xs.length < big then .ok .non (M.set n (.lst (xs ++ [y]))) else .stuck
    | _ => .stuck
  | .popAt, .ptr n, [.int i] => match M[n]? with
    | some (.lst xs) => if 0 ≤ i ∧ i ≤ 16777216 ∧ i < xs.length then match xs[i.toNat]? with
        | some y => .ok y (M.set n (.lst (xs.eraseIdx i.toNat)))
        | none => .stuck
      else .stuck
    | _ => .stuck
  | .pop, .ptr n, [] => match M[n]? with
    | some (.lst xs) => match xs[xs.length - 1]? with
      | some y => .ok y (M.set n (.lst xs.dropLast))
      | none => .stuck
    | _ => .stuck
  | .index, x, [y] => match listOf M x with
    | some xs => if flatd y ∧ xs.all flatd then match xs.findIdx? fun z => flateq z y with
        | some j => .ok (.int j) M
        | none => .stuck
      else .stuck
    | none => .stuck
  | _, _, _ => .stuck

/-- the types of isinstance -/
inductive Ty where
  | int | bool | str | tuple | list
  deriving DecidableEq
def isTy (M : Store) (t : Ty) : D → Option Bool
  | .non => some false
  | .bl _ => some (match t with | .bool => true | .int => true | _ => false)
  | .int _ => some (match t with | .int => true | _ => false)
  | .str _ => some (match t with | .str => true | _ => false)
  | .tup _ => some (match t with | .tuple => true | _ => false)
  | .lst _ => some (match t with | .list => true | _ => false)
  | .scr _ => some (match t with | .list => true | _ => false)
  | .ptr n => match M[n]? with
    | some (.lst _) => some (match t with | .list => true | _ => false)
    | _ => none

inductive Gp where
  | n (i : Nat)
  | t (gs : List Nat)
mutual
inductive Xp where
  | non | bl (b : Bool) | int (i : Int) | str (x : Str)
  | v (i : Nat)
  | bin (o : Bop) (a b : Xp)
  | neg (a : Xp)
  | notV (a : Xp)
  | cmp (o : Cop) (a b : Xp)
  | chn (o p : Cop) (a b c : Xp)
  | isN (a : Xp)
  | notN (a : Xp)
  | andV (as : Xps)
  | orV (as : Xps)
  | ife (t : Tp) (a b : Xp)
  | call (f : Nat) (as : Xps)
  | mk (c : Nat) (as : Xps)
  | meth (o : Xp) (m : Nat) (as : Xps)
  | bi (f : Bi) (as : Xps)
  | bm (f : Bm) (o : Xp) (as : Xps)
  | isi (a : Xp) (t : Ty)
  | fld (o : Xp) (f : Nat)
  | ix (o i : Xp)
  | sl (o : Xp) (lo hi : Op)
  | tup (as : Xps)
  | lst (hot : Bool) (as : Xps)
  | lc (hot : Bool) (g : Gp) (it : Ip) (t : Tps) (e : Xp)
  | frz (e : Xp)
  | lrg (hot : Bool) (a : Xp)
  | lrg2 (hot : Bool) (a b : Xp)
  | trg (a : Xp)
  | trg2 (a b : Xp)
  | dnew (tk : Bool)
  | srtk (e : Xp)
  | isB (b : Bool) (a : Xp)
inductive Xps where
  | nil | cons (e : Xp) (r : Xps)
inductive Op where
  | no | so (e : Xp)
inductive Tp where
  | val (e : Xp)
  | cmp (o : Cop) (a b : Xp)
  | chn (o p : Cop) (a b c : Xp)
  | isN (a : Xp)
  | notN (a : Xp)
  | tnot (t : Tp)
  | tand (ts : Tps)
  | tor (ts : Tps)
inductive Tps where
  | nil | cons (t : Tp) (r : Tps)
inductive Ip where
  | val (e : Xp)
  | rng1 (a : Xp)
  | rng2 (a b : Xp)
end

mutual
inductive Sm where
  | asg (g : Gp) (e : Xp)
  | asgF (o : Xp) (f : Nat) (e : Xp)
  | asgI (o i : Xp) (e : Xp)
  | aug (i : Nat) (o : Bop) (e : Xp)
  | augI (o i : Xp) (op : Bop) (e : Xp)
  | ex (e : Xp)
  | ite (t : Tp) (a b : Sms)
  | fo (g : Gp) (it : Ip) (b : Sms)
  | fod (g : Gp) (i : Nat) (b : Sms)
  | whl (t : Tp) (b : Sms)
  | ret (e : Xp)
  | retN
  | rais (c : Nat) (as : Xps)
  | brk | ctn | pass
  | par (i j : Nat) (a b : Xp)
  | nev
  | tr (b : Sms) (hs : List (Nat × Nat × Hx))
inductive Sms where
  | nil | cons (s : Sm) (r : Sms)
/-- what an except suite returns -/
inductive Hx where
  | non | bl (b : Bool) | int (i : Int) | str (x : Str) | v (i : Nat) | fld (f : Nat) | tup (as : Hxs)
inductive Hxs where
  | nil | cons (e : Hx) (r : Hxs)
end

/-- a def: its name (and qualified name), parameters, all names by slot, its body; trunc: what it laid is let go behind it -/
structure Fn where
  name : Str
  qual : Str
  glob : Bool
  np : Nat
  names : List Str
  body : Sms
  trunc : Bool
  /-- it makes lambdas -/
  lam : Bool
/-- a class: its name, its __init__, its methods by name -/
structure Cl where
  name : Str
  init : Nat
  flds : List Nat
  meths : List (Nat × Nat)
/-- an exception class: its name, its fields, the classes of the text above it (itself too) -/
structure Er where
  name : Str
  flds : List Nat
  ups : List Nat
structure Pg where
  fns : List Fn
  cls : List Cl
  ers : List Er
  nms : List Str

section
variable (P : Pg) (w : Nat) (cf : Nat → List D → Store → Res D)

/-- whether a class has this field -/
def hasF (c f : Nat) : Bool := match P.cls[c]? with
  | some k => k.flds.contains f
  | none => false
def setF (f : Nat) (v : D) : List (Nat × D) → List (Nat × D)
  | [] => [(f, v)]
  | (g, x) :: r => if g = f then (g, v) :: r else (g, x) :: setF f v r
def getF (f : Nat) : List (Nat × D) → Option D
  | [] => none
  | (g, x) :: r => if g = f then some x else getF f r
def findM (m : Nat) : List (Nat × Nat) → Option Nat
  | [] => none
  | (g, x) :: r => if g = m then some x else findM m r

def gslots : Gp → List Nat
  | .n i => [i]
  | .t is => is
/-- a comprehension's own names are unknown ahead of its target -/
def wipeR (ρ : Rho) : List Nat → Rho
  | [] => ρ
  | i :: is => (wipeR ρ is).set i none
def bindG (g : Gp) (d : D) (ρ : Rho) : Option Rho :=
  match g with
  | .n i => some (ρ.set i (some d))
  | .t gs => match d with
    | .tup xs => if xs.length = gs.length then some ((gs.zip xs).foldl (fun ρ p => ρ.set p.1 (some p.2)) ρ) else none
    | .lst xs => if xs.length = gs.length then some ((gs.zip xs).foldl (fun ρ p => ρ.set p.1 (some p.2)) ρ) else none
    | _ => none

/-- a comprehension's walk over items that stand still; acc: what is made so far -/
def lcA (f : D → Store → Res (Option D)) : List D → List D → Store → Res (List D)
  | [], acc, M => .ok acc M
  | x :: xs, acc, M => (f x M).bind fun o M1 => match o with
    | some y => if acc.length < big then lcA f xs (acc ++ [y]) M1 else .stuck
    | none => lcA f xs acc M1
/-- .. over a list of the store, as it stands at each turn -/
def lcH (n : Nat) (f : D → Store → Res (Option D)) : Nat → Nat → List D → Store → Res (List D)
  | 0, _, _, _ => .stuck
  | k + 1, i, acc, M => match M[n]? with
    | some (.lst xs) => match xs[i]? with
      | none => .ok acc M
      | some x => (f x M).bind fun o M1 => match o with
        | some y => if acc.length < big then lcH n f k (i + 1) (acc ++ [y]) M1 else .stuck
        | none => lcH n f k (i + 1) acc M1
    | _ => .stuck

/-- what is walked: items that stand still, or a list of the store -/
inductive Wk where
  | items (xs : List D)
  | hot (n : Nat)
def walkOf (M : Store) (d : D) : Option Wk :=
  match d with
  | .lst xs => some (.items xs)
  | .tup xs => some (.items xs)
  | .scr ns => some (.items (ns.map D.int))
  | .ptr n => match M[n]? with
    | some (.lst _) => some (.hot n)
    | _ => none
  | _ => none
def rngOf (lo hi : Int) : List D := (List.range (hi - lo).toNat).map fun (i : Nat) => D.int (lo + (i : Int))
def rngOk (lo hi : Int) : Bool := decide (-16777216 ≤ lo) && decide (lo ≤ 16777216) && decide (-16777216 ≤ hi) && decide (hi ≤ 16777216)

mutual
def runE (ρ : Rho) : Xp → Store → Res D
  | .non, M => .ok .non M
  | .bl b, M => .ok (.bl b) M
  | .int i, M => .ok (.int i) M
  | .str x, M => .ok (.str x) M
  | .v i, M => match ρ[i]? with
    | some (some d) => .ok d M
    | _ => .stuck
  | .bin o a b, M => (runE ρ a M).bind fun x M1 => (runE ρ b M1).bind fun y M2 => binop o x y M2
  | .neg a, M => (runE ρ a M).bind fun x M1 => match x with
    | .int i => .ok (.int (-i)) M1
    | _ => .stuck
  | .notV a, M => (runE ρ a M).bind fun x M1 => match x with
    | .bl b => .ok (.bl (!b)) M1
    | _ => .stuck
  | .cmp o a b, M => (runE ρ a M).bind fun x M1 => (runE ρ b M1).bind fun y M2 => cmpop o x y M2
  | .chn o p a b c, M => (runE ρ a M).bind fun x M1 => (runE ρ b M1).bind fun y M2 => (cmpop o x y M2).bind fun z M3 => match z with
    | .bl true => (runE ρ c M3).bind fun u M4 => cmpop p y u M4
    | .bl false => .ok (.bl false) M3
    | _ => .stuck
  | .isN a, M => (runE ρ a M).bind fun x M1 => .ok (.bl (match x with | .non => true | _ => false)) M1
  | .notN a, M => (runE ρ a M).bind fun x M1 => .ok (.bl (match x with | .non => false | _ => true)) M1
  | .andV as, M => runAnd ρ as M
  | .orV as, M => runOr ρ as M
  | .ife t a b, M => (runT ρ t M).bind fun k M1 => match k with
    | true => runE ρ a M1
    | false => runE ρ b M1
  | .call f as, M => (runA ρ as M).bind fun xs M1 => cf f xs M1
  | .mk c as, M => (runA ρ as M).bind fun xs M1 => match P.cls[c]? with
    | some k => (cf k.init (.ptr M1.length :: xs) (M1 ++ [.ins c []])).bind fun r M2 => match r with
      | .non => .ok (.ptr M1.length) M2
      | _ => .stuck
    | none => .stuck
  | .meth o m as, M => (runE ρ o M).bind fun x M1 => match x with
    | .ptr n => match M1[n]? with
      | some (.ins c fs) => match (P.cls[c]?).bind fun k => findM m k.meths with
        | some g => match getF m fs with
          | none => (runA ρ as M1).bind fun xs M2 => cf g (.ptr n :: xs) M2
          | some _ => .stuck
        | none => .stuck
      | _ => .stuck
    | _ => .stuck
  | .bi f as, M => (runA ρ as M).bind fun xs M1 => birun f xs M1
  | .bm f o as, M => (runE ρ o M).bind fun x M1 => match (listOf M1 x).isSome with
    | true => (runA ρ as M1).bind fun xs M2 => bmrun f x xs M2
    | false => .stuck
  | .isi a t, M => (runE ρ a M).bind fun x M1 => match isTy M1 t x with
    | some b => .ok (.bl b) M1
    | none => .stuck
  | .fld o f, M => (runE ρ o M).bind fun x M1 => match x with
    | .ptr n => match M1[n]? with
      | some (.ins c fs) => if hasF P c f then match getF f fs with
          | some v => .ok v M1
          | none => .stuck
        else .stuck
      | _ => .stuck
    | _ => .stuck
  | .ix o i, M => (runE ρ o M).bind fun x M1 => (runE ρ i M1).bind fun y M2 => ixd M2 x y
  | .sl o lo hi, M => (runE ρ o M).bind fun x M1 => (runO ρ lo M1).bind fun l M2 => (runO ρ hi M2).bind fun h M3 => sld M3 x l h
  | .tup as, M => (runA ρ as M).bind fun xs M1 => if xs.length ≤ big then .ok (.tup xs) M1 else .stuck
  | .lst hot as, M => (runA ρ as M).bind fun xs M1 => if xs.length ≤ big then newL hot xs M1 else .stuck
  | .lc hot g it t e, M => (runI ρ it M).bind fun k M1 =>
    (match k with
    | .items xs => lcA (fun x M => match bindG g x (wipeR ρ (gslots g)) with
      | some ρ' => ((runTs ρ' t M).noerr).bind fun b M2 => match b with
        | true => ((runE ρ' e M2).noerr).bind fun y M3 => .ok (some y) M3
        | false => .ok none M2
      | none => .stuck) xs [] M1
    | .hot n => lcH n (fun x M => match bindG g x (wipeR ρ (gslots g)) with
      | some ρ' => ((runTs ρ' t M).noerr).bind fun b M2 => match b with
        | true => ((runE ρ' e M2).noerr).bind fun y M3 => .ok (some y) M3
        | false => .ok none M2
      | none => .stuck) w 0 [] M1
).bind fun ys M2 => newL hot ys M2
  | .frz e, M => (runE ρ e M).bind fun x M1 => match x with
    | .ptr n => match M1[n]? with
      | some (.lst xs) => .ok (.lst xs) (M1.set n .dead)
      | _ => .stuck
    | d => .ok d M1
  | .lrg hot a, M => (runE ρ a M).bind fun x M1 => match x with
    | .int i => if -16777216 ≤ i ∧ i ≤ 16777216 then newL hot (rngOf 0 i) M1 else .stuck
    | _ => .stuck
  | .lrg2 hot a b, M => (runE ρ a M).bind fun x M1 => (runE ρ b M1).bind fun y M2 => match x, y with
    | .int i, .int j => if rngOk i j ∧ j - i ≤ 16777216 then newL hot (rngOf i j) M2 else .stuck
    | _, _ => .stuck
  | .trg a, M => (runE ρ a M).bind fun x M1 => match x with
    | .int i => if -16777216 ≤ i ∧ i ≤ 16777216 then .ok (.tup (rngOf 0 i)) M1 else .stuck
    | _ => .stuck
  | .trg2 a b, M => (runE ρ a M).bind fun x M1 => (runE ρ b M1).bind fun y M2 => match x, y with
    | .int i, .int j => if rngOk i j ∧ j - i ≤ 16777216 then .ok (.tup (rngOf i j)) M2 else .stuck
    | _, _ => .stuck
  | .dnew tk, M => .ok (.ptr M.length) (M ++ [.dic tk []])
  | .srtk e, M => (runE ρ e M).bind fun x M1 => match (listOf M1 x).bind tupsOf with
    | some ps => .ok (.lst ((sortT ps).map tupD)) M1
    | none => .stuck
  | .isB b a, M => (runE ρ a M).bind fun x M1 => match x with
    | .bl c => .ok (.bl (c == b)) M1
    | _ => .stuck
def runA (ρ : Rho) : Xps → Store → Res (List D)
  | .nil, M => .ok [] M
  | .cons e r, M => (runE ρ e M).bind fun x M1 => (runA ρ r M1).bind fun xs M2 => .ok (x :: xs) M2
def runO (ρ : Rho) : Op → Store → Res (Option Int)
  | .no, M => .ok none M
  | .so e, M => (runE ρ e M).bind fun x M1 => match x with
    | .int i => .ok (some i) M1
    | _ => .stuck
def runAnd (ρ : Rho) : Xps → Store → Res D
  | .nil, _ => .stuck
  | .cons e .nil, M => runE ρ e M
  | .cons e (.cons e2 r), M => (runE ρ e M).bind fun x M1 => match x with
    | .bl true => runAnd ρ (.cons e2 r) M1
    | .bl false => .ok (.bl false) M1
    | _ => .stuck
def runOr (ρ : Rho) : Xps → Store → Res D
  | .nil, _ => .stuck
  | .cons e .nil, M => runE ρ e M
  | .cons e (.cons e2 r), M => (runE ρ e M).bind fun x M1 => match x with
    | .bl false => runOr ρ (.cons e2 r) M1
    | .bl true => .ok (.bl true) M1
    | _ => .stuck
def runT (ρ : Rho) : Tp → Store → Res Bool
  | .val e, M => (runE ρ e M).bind fun x M1 => match truth M1 x with
    | some b => .ok b M1
    | none => .stuck
  | .cmp o a b, M => (runE ρ a M).bind fun x M1 => (runE ρ b M1).bind fun y M2 => (cmpop o x y M2).bind fun z M3 => match z with
    | .bl k => .ok k M3
    | _ => .stuck
  | .chn o p a b c, M => (runE ρ a M).bind fun x M1 => (runE ρ b M1).bind fun y M2 => (cmpop o x y M2).bind fun z M3 => match z with
    | .bl true => (runE ρ c M3).bind fun u M4 => (cmpop p y u M4).bind fun z M5 => match z with
      | .bl k => .ok k M5
      | _ => .stuck
    | .bl false => .ok false M3
    | _ => .stuck
  | .isN a, M => (runE ρ a M).bind fun x M1 => .ok (match x with | .non => true | _ => false) M1
  | .notN a, M => (runE ρ a M).bind fun x M1 => .ok (match x with | .non => false | _ => true) M1
  | .tnot t, M => (runT ρ t M).bind fun k M1 => .ok (!k) M1
  | .tand ts, M => runTs ρ ts M
  | .tor ts, M => runTo ρ ts M
def runTs (ρ : Rho) : Tps → Store → Res Bool
  | .nil, M => .ok true M
  | .cons t .nil, M => runT ρ t M
  | .cons t (.cons t2 r), M => (runT ρ t M).bind fun k M1 => match k with
    | true => runTs ρ (.cons t2 r) M1
    | false => .ok false M1
def runTo (ρ : Rho) : Tps → Store → Res Bool
  | .nil, M => .ok false M
  | .cons t .nil, M => runT ρ t M
  | .cons t (.cons t2 r), M => (runT ρ t M).bind fun k M1 => match k with
    | true => .ok true M1
    | false => runTo ρ (.cons t2 r) M1
def runI (ρ : Rho) : Ip → Store → Res Wk
  | .val e, M => (runE ρ e M).bind fun x M1 => match walkOf M1 x with
    | some k => .ok k M1
    | none => .stuck
  | .rng1 a, M => (runE ρ a M).bind fun x M1 => match x with
    | .int i => if rngOk 0 i then .ok (.items (rngOf 0 i)) M1 else .stuck
    | _ => .stuck
  | .rng2 a b, M => (runE ρ a M).bind fun x M1 => (runE ρ b M1).bind fun y M2 => match x, y with
    | .int i, .int j => if rngOk i j then .ok (.items (rngOf i j)) M2 else .stuck
    | _, _ => .stuck
end

inductive Fl where
  | nx (ρ : Rho)
  | rt (d : D)
  | bk (ρ : Rho)
  | ct (ρ : Rho)
  | er (c : Nat) (fs : List D) (ρ : Rho)
/-- a statement's end: how it goes on, with the store; none: stuck -/
abbrev Out := Option (Fl × Store)

/-- an expression within a statement -/
def withE {α : Type} (r : Res α) (ρ : Rho) (f : α → Store → Out) : Out :=
  match r with
  | .ok a M => f a M
  | .err c fs M => some (.er c fs ρ, M)
  | .stuck => none
@[simp] theorem withE_ok {α : Type} (a : α) (M : Store) (ρ : Rho) (f : α → Store → Out) : withE (.ok a M) ρ f = f a M := id rfl
@[simp] theorem withE_err {α : Type} (c : Nat) (fs : List D) (M : Store) (ρ : Rho) (f : α → Store → Out) : withE (.err c fs M : Res α) ρ f = some (.er c fs ρ, M) := id rfl
@[simp] theorem withE_stuck {α : Type} (ρ : Rho) (f : α → Store → Out) : withE (.stuck : Res α) ρ f = none := id rfl
/-- behind a statement that goes on -/
def andThen (o : Out) (f : Rho → Store → Out) : Out :=
  match o with
  | some (.nx ρ, M) => f ρ M
  | o => o
@[simp] theorem andThen_nx (ρ : Rho) (M : Store) (f : Rho → Store → Out) : andThen (some (.nx ρ, M)) f = f ρ M := id rfl
@[simp] theorem andThen_rt (d : D) (M : Store) (f : Rho → Store → Out) : andThen (some (.rt d, M)) f = some (.rt d, M) := id rfl
@[simp] theorem andThen_bk (ρ : Rho) (M : Store) (f : Rho → Store → Out) : andThen (some (.bk ρ, M)) f = some (.bk ρ, M) := id rfl
@[simp] theorem andThen_ct (ρ : Rho) (M : Store) (f : Rho → Store → Out) : andThen (some (.ct ρ, M)) f = some (.ct ρ, M) := id rfl
@[simp] theorem andThen_er (c : Nat) (fs : List D) (ρ : Rho) (M : Store) (f : Rho → Store → Out) : andThen (some (.er c fs ρ, M)) f = some (.er c fs ρ, M) := id rfl
@[simp] theorem andThen_none (f : Rho → Store → Out) : andThen none f = none := id rfl
/-- behind a loop's turn -/
def turn (o : Out) (go : Rho → Store → Out) : Out :=
  match o with
  | some (.nx ρ, M) => go ρ M
  | some (.ct ρ, M) => go ρ M
  | some (.bk ρ, M) => some (.nx ρ, M)
  | o => o
@[simp] theorem turn_nx (ρ : Rho) (M : Store) (f : Rho → Store → Out) : turn (some (.nx ρ, M)) f = f ρ M := id rfl
@[simp] theorem turn_rt (d : D) (M : Store) (f : Rho → Store → Out) : turn (some (.rt d, M)) f = some (.rt d, M) := id rfl
@[simp] theorem turn_bk (ρ : Rho) (M : Store) (f : Rho → Store → Out) : turn (some (.bk ρ, M)) f = some (.nx ρ, M) := id rfl
@[simp] theorem turn_ct (ρ : Rho) (M : Store) (f : Rho → Store → Out) : turn (some (.ct ρ, M)) f = f ρ M := id rfl
@[simp] theorem turn_er (c : Nat) (fs : List D) (ρ : Rho) (M : Store) (f : Rho → Store → Out) : turn (some (.er c fs ρ, M)) f = some (.er c fs ρ, M) := id rfl
@[simp] theorem turn_none (f : Rho → Store → Out) : turn none f = none := id rfl

def forL (f : D → Rho → Store → Out) : List D → Rho → Store → Out
  | [], ρ, M => some (.nx ρ, M)
  | x :: xs, ρ, M => turn (f x ρ M) fun ρ' M' => forL f xs ρ' M'
def forH (n : Nat) (f : D → Rho → Store → Out) : Nat → Nat → Rho → Store → Out
  | 0, _, _, _ => none
  | k + 1, i, ρ, M => match M[n]? with
    | some (.lst xs) => match xs[i]? with
      | none => some (.nx ρ, M)
      | some x => turn (f x ρ M) fun ρ' M' => forH n f k (i + 1) ρ' M'
    | _ => none
def whileL (c : Rho → Store → Res Bool) (f : Rho → Store → Out) : Nat → Rho → Store → Out
  | 0, _, _ => none
  | k + 1, ρ, M => withE (c ρ M) ρ fun b M1 => match b with
    | true => turn (f ρ M1) fun ρ' M' => whileL c f k ρ' M'
    | false => some (.nx ρ, M1)

/-- behind a loop over a dict: it may be changed again -/
def unlk (n : Nat) (o : Out) : Out :=
  match o with
  | some (.nx ρ, M) => match M[n]? with
    | some (.fdic tk kvs) => some (.nx ρ, M.set n (.dic tk kvs))
    | _ => none
  | some (.rt d, M) => match M[n]? with
    | some (.fdic tk kvs) => some (.rt d, M.set n (.dic tk kvs))
    | _ => none
  | _ => none

def runH (ρ : Rho) (fl : List Nat) (fs : List D) : Hx → Option D
  | .non => some .non
  | .bl b => some (.bl b)
  | .int i => some (.int i)
  | .str x => some (.str x)
  | .v i => match ρ[i]? with
    | some (some d) => some d
    | _ => none
  | .fld f => getF f (fl.zip fs)
  | .tup as => (runHs ρ fl fs as).bind fun xs => if xs.length ≤ big then some (.tup xs) else none
where runHs (ρ : Rho) (fl : List Nat) (fs : List D) : Hxs → Option (List D)
  | .nil => some []
  | .cons e r => (runH ρ fl fs e).bind fun x => (runHs ρ fl fs r).map (x :: ·)

def handle (c : Nat) (fs : List D) (ρ : Rho) (M : Store) : List (Nat × Nat × Hx) → Out
  | [] => some (.er c fs ρ, M)
  | (k, i, h) :: r => match P.ers[c]? with
    | some e => if e.ups.contains k then (if i < ρ.length then match runH (ρ.set i none) e.flds fs h with
        | some d => some (.rt d, M)
        | none => none
      else none)
      else handle c fs ρ M r
    | none => none

mutual
def runS : Sm → Rho → Store → Out
  | .asg g e, ρ, M => withE (runE P w cf ρ e M) ρ fun d M1 => match bindG g d ρ with
    | some ρ' => some (.nx ρ', M1)
    | none => none
  | .asgF o f e, ρ, M => withE (runE P w cf ρ e M) ρ fun d M1 => withE (runE P w cf ρ o M1) ρ fun x M2 => match x with
    | .ptr n => match M2[n]? with
      | some (.ins c fs) => if hasF P c f ∧ fs.length < 900 then some (.nx ρ, M2.set n (.ins c (setF f d fs))) else none
      | _ => none
    | _ => none
  | .asgI o i e, ρ, M => withE (runE P w cf ρ e M) ρ fun d M1 => withE (runE P w cf ρ o M1) ρ fun x M2 => withE (runE P w cf ρ i M2) ρ fun y M3 => match x, y with
    | .ptr n, y => match M3[n]? with
      | some (.lst xs) => match y with
        | .int k => match L2.ixN xs.length k with
          | some j => some (.nx ρ, M3.set n (.lst (xs.set j d)))
          | none => none
        | _ => none
      | some (.dic tk kvs) => if isKey tk y ∧ kvs.length < big then some (.nx ρ, M3.set n (.dic tk (dput kvs y d))) else none
      | _ => none
    | _, _ => none
  | .aug i o e, ρ, M => match ρ[i]? with
    | some (some x) => withE (runE P w cf ρ e M) ρ fun y M1 => match x, y with
      | .int a, .int b => match o with
        | .add => some (.nx (ρ.set i (some (.int (a + b)))), M1)
        | .sub => some (.nx (ρ.set i (some (.int (a - b)))), M1)
        | _ => none
      | _, _ => none
    | _ => none
  | .augI o i op e, ρ, M => withE (runE P w cf ρ o M) ρ fun x M1 => withE (runE P w cf ρ i M1) ρ fun y M2 => match x, y with
    | .ptr n, .int k => match M2[n]? with
      | some (.lst xs) => match L2.atI xs k with
        | some (.int a) => withE (runE P w cf ρ e M2) ρ fun z M3 => match z with
          | .int b => match M3[n]? with
            | some (.lst ys) => match L2.ixN ys.length k with
              | some j => match op with
                | .add => some (.nx ρ, M3.set n (.lst (ys.set j (.int (a + b)))))
                | .sub => some (.nx ρ, M3.set n (.lst (ys.set j (.int (a - b)))))
                | _ => none
              | none => none
            | _ => none
          | _ => none
        | _ => none
      | _ => none
    | _, _ => none
  | .ex e, ρ, M => withE (runE P w cf ρ e M) ρ fun _ M1 => some (.nx ρ, M1)
  | .ite t a b, ρ, M => withE (runT P w cf ρ t M) ρ fun k M1 => match k with
    | true => runSs a ρ M1
    | false => runSs b ρ M1
  | .fo g it b, ρ, M => withE (runI P w cf ρ it M) ρ fun k M1 => match k with
    | .items xs => forL (fun x ρ M => match bindG g x ρ with
      | some ρ' => runSs b ρ' M
      | none => none) xs ρ M1
    | .hot n => forH n (fun x ρ M => match bindG g x ρ with
      | some ρ' => runSs b ρ' M
      | none => none) w 0 ρ M1
  | .fod g i b, ρ, M => match ρ[i]? with
    | some (some (.ptr n)) => match M[n]? with
      | some (.dic tk kvs) => unlk n (forL (fun x ρ M => match bindG g x ρ with
        | some ρ' => runSs b ρ' M
        | none => none) (kvs.map (·.1)) ρ (M.set n (.fdic tk kvs)))
      | _ => none
    | _ => none
  | .whl t b, ρ, M => whileL (fun ρ M => runT P w cf ρ t M) (fun ρ M => runSs b ρ M) w ρ M
  | .ret e, ρ, M => withE (runE P w cf ρ e M) ρ fun d M1 => some (.rt d, M1)
  | .retN, _, M => some (.rt .non, M)
  | .rais c as, ρ, M => withE (runA P w cf ρ as M) ρ fun xs M1 => match P.ers[c]? with
    | some e => if xs.length = e.flds.length then some (.er c xs.reverse ρ, M1) else none
    | none => none
  | .brk, ρ, M => some (.bk ρ, M)
  | .ctn, ρ, M => some (.ct ρ, M)
  | .pass, ρ, M => some (.nx ρ, M)
  | .par i j a b, ρ, M => withE (runE P w cf ρ a M) ρ fun x M1 => withE (runE P w cf ρ b M1) ρ fun y M2 => some (.nx ((ρ.set i (some x)).set j (some y)), M2)
  | .nev, _, _ => none
  | .tr b hs, ρ, M => match runSs b ρ M with
    | some (.er c fs ρ', M') => handle P c fs ρ' M' hs
    | o => o
def runSs : Sms → Rho → Store → Out
  | .nil, ρ, M => some (.nx ρ, M)
  | .cons s r, ρ, M => andThen (runS s ρ M) fun ρ' M' => runSs r ρ' M'
end
end

mutual
/-- all places are below k -/
def underD (k : Nat) : D → Bool
  | .ptr n => decide (n < k)
  | .tup xs => underDs k xs
  | .lst xs => underDs k xs
  | _ => true
def underDs (k : Nat) : List D → Bool
  | [] => true
  | x :: xs => underD k x && underDs k xs
end
def underO (k : Nat) : Ob → Bool
  | .dead => true
  | .lst xs => underDs k xs
  | .ins _ fs => fs.all fun p => underD k p.2
  | .dic _ kvs => kvs.all fun p => underD k p.1 && underD k p.2
  | .fdic _ kvs => kvs.all fun p => underD k p.1 && underD k p.2
/-- what a call has laid may be let go: nothing that stays names it -/
def Cut (tr : Bool) (M M' : Store) (d : D) : Prop := tr = true ∧ underD M.length d = true ∧ (M'.take M.length = M ∨ (M'.take M.length).all (underO M.length) = true)
open Classical in
/-- a call's end -/
noncomputable def finish (tr : Bool) (M : Store) (o : Out) : Res D :=
  match o with
  | some (.rt d, M') => .ok d (if Cut tr M M' d then M'.take M.length else M')
  | some (.nx _, M') => .ok .non (if Cut tr M M' .non then M'.take M.length else M')
  | some (.er c fs _, M') => .err c fs M'
  | _ => .stuck

noncomputable def callF (P : Pg) (w : Nat) : Nat → Nat → List D → Store → Res D
  | 0, _, _, _ => .stuck
  | n + 1, f, as, M => match P.fns[f]? with
    | some k => if as.length = k.np then finish k.trunc M (runSs P w (callF P w n) k.body (as.map some ++ List.replicate (k.names.length - k.np) none) M) else .stuck
    | none => .stuck
end G

/-! GRep -/
set_option maxRecDepth 100000
set_option maxHeartbeats 4000000
namespace G
open PySem (Str)
open L2 (V HO Hp upd upd_same upd_ne SqL SqT Rd)

/-- what is fixed through the whole law: the written part, where the classes stand, the names by number -/
structure Gx where
  P : Pg
  K : PySem.W.Frag
  cl : Nat → PySem.Addr
  /-- the tables of code objects that may grow, with the names of their code -/
  tbs : List (PySem.Addr × Str) := []
def Gx.nm (X : Gx) (i : Nat) : Str := X.P.nms.getD i Str.empty

/-- where the store's objects stand; addresses that nobody reads or writes meanwhile -/
structure Am where
  ad : List PySem.Addr
  pv : PySem.Addr → Prop
def Am.add (al : Am) (p : PySem.Addr) : Am := ⟨al.ad ++ [p], al.pv⟩
def live (M : Store) (n : Nat) : Prop := ∃ o, M[n]? = some o ∧ o.hot = true
def ndl (M : Store) (n : Nat) : Prop := ∃ o, M[n]? = some o ∧ o ≠ Ob.dead
theorem live.nd {M : Store} {n : Nat} (h : live M n) : ndl M n := by
  obtain ⟨o, e, ho⟩ := h
  exact ⟨o, e, by rintro rfl; cases ho⟩
def Hot (al : Am) (M : Store) (a : PySem.Addr) : Prop := (∃ n, live M n ∧ al.ad[n]? = some a) ∨ al.pv a
def Scr (K : PySem.W.Frag) (H : Hp) (al : Am) (M : Store) (a : PySem.Addr) (ns : List Int) : Prop := (H a = some (.lst (ns.map V.int)) ∧ ¬ Hot al M a) ∨
  (∃ o, H a = some (.frz o (.lst (ns.map V.int)))) ∨
    ∃ (o : PySem.Obj) (its : Array PySem.Value) (n : Nat), K.lookup a = some o ∧ o.cls = .type "list" ∧ o.dict = none ∧ o.data = .seq its n ∧ its.size ≤ PySem.sizeLine ∧ L2.Vals (ns.map V.int) its.toList
theorem Scr.sq {K : PySem.W.Frag} {H : Hp} {al : Am} {M : Store} {a : PySem.Addr} {ns : List Int} (h : Scr K H al M a ns) : SqL K H a (ns.map V.int) := by
  rcases h with ⟨h, _⟩ | ⟨o, h⟩ | h
  · exact .inl (.inl h)
  · exact .inl (.inr ⟨o, h⟩)
  · exact .inr h

mutual
def Rep (K : PySem.W.Frag) (H : Hp) (al : Am) (M : Store) : D → V → Prop
  | .non, v => v = .non
  | .bl b, v => v = .bl b
  | .int i, v => v = .int i
  | .str x, v => v = .str x
  | .tup ds, v => ∃ a vs, v = .ref a ∧ H a = some (.tup vs) ∧ Reps K H al M ds vs
  | .lst ds, v => ∃ a vs, v = .ref a ∧ H a = some (.lst vs) ∧ ¬ Hot al M a ∧ Reps K H al M ds vs
  | .scr ns, v => ∃ a, v = .ref a ∧ Scr K H al M a ns
  | .ptr n, v => ∃ a, v = .ref a ∧ al.ad[n]? = some a
def Reps (K : PySem.W.Frag) (H : Hp) (al : Am) (M : Store) : List D → List V → Prop
  | [], vs => vs = []
  | d :: ds, vs => ∃ v r, vs = v :: r ∧ Rep K H al M d v ∧ Reps K H al M ds r
end
theorem Reps.nil {K : PySem.W.Frag} {H : Hp} {al : Am} {M : Store} : Reps K H al M [] [] := by simp [Reps]
theorem Reps.cons {K : PySem.W.Frag} {H : Hp} {al : Am} {M : Store} {d : D} {ds : List D} {v : V} {vs : List V} (h : Rep K H al M d v) (t : Reps K H al M ds vs) : Reps K H al M (d :: ds) (v :: vs) := by
  rw [Reps]; exact ⟨v, vs, rfl, h, t⟩

/-- the attributes of an instance, in order -/
def Fsr (nm : Nat → Str) (K : PySem.W.Frag) (H : Hp) (al : Am) (M : Store) : List (Nat × D) → List (Str × V) → Prop
  | [], vs => vs = []
  | p :: ds, vs => ∃ v r, vs = (nm p.1, v) :: r ∧ Rep K H al M p.2 v ∧ Fsr nm K H al M ds r
/-- a key, by what it is -/
def kD : L2.Key → D
  | .inl i => .int i
  | .inr x => .str x
def tD (ks : List L2.Key) : D := .tup (ks.map kD)
/-- the items of a dict, in order -/
def Dr {κ : Type} (kf : κ → D) (K : PySem.W.Frag) (H : Hp) (al : Am) (M : Store) : List (D × D) → List (κ × V) → Prop
  | [], vs => vs = []
  | p :: ds, vs => ∃ k v r, vs = (k, v) :: r ∧ p.1 = kf k ∧ Rep K H al M p.2 v ∧ Dr kf K H al M ds r
/-- what a dict's object says -/
def Dcr (tk : Bool) (K : PySem.W.Frag) (H : Hp) (al : Am) (M : Store) (kvs : List (D × D)) (u : HO) : Prop :=
  match tk with
  | false => ∃ xs, u = .dK xs ∧ Dr kD K H al M kvs xs
  | true => ∃ xs, u = .dT xs ∧ Dr tD K H al M kvs xs
def Obr (X : Gx) (H : Hp) (al : Am) (M : Store) : Ob → PySem.Addr → Prop
  | .dead, _ => True
  | .dic tk kvs, a => ∃ u, H a = some u ∧ Dcr tk X.K H al M kvs u
  | .fdic tk kvs, a => ∃ o u, H a = some (.frz o u) ∧ Dcr tk X.K H al M kvs u
  | .lst ds, a => ∃ vs, H a = some (.lst vs) ∧ Reps X.K H al M ds vs
  | .ins c fs, a => ∃ dx vfs, H a = some (.ins (X.cl c) dx vfs) ∧ Fsr X.nm X.K H al M fs vfs ∧ ∀ p ∈ fs, p.1 < X.P.nms.length
structure Sto (X : Gx) (H : Hp) (al : Am) (M : Store) : Prop where
  len : al.ad.length = M.length
  at_ : ∀ (n : Nat) o a, M[n]? = some o → al.ad[n]? = some a → Obr X H al M o a
  inj : ∀ (i j : Nat) a, ndl M i → ndl M j → al.ad[i]? = some a → al.ad[j]? = some a → i = j
  pvl : ∀ a, al.pv a → ∃ vs, H a = some (.lst vs)
  pvd : ∀ (n : Nat) a, live M n → al.ad[n]? = some a → ¬ al.pv a
  tabs : LamX.Tabs X.tbs H
/-- something stands there, and no table -/
def sol (o : Option HO) : Prop := ∃ u, o = some u ∧ ∀ ps, u ≠ .tbl ps
theorem sol_none : ¬ sol none := fun ⟨_, e, _⟩ => by cases e
theorem sol_some {u : HO} (h : ∀ ps, u ≠ .tbl ps) : sol (some u) := ⟨u, rfl, h⟩
structure Stp (H : Hp) (al : Am) (M : Store) (H' : Hp) (al' : Am) (M' : Store) : Prop where
  pre : ∃ more, al'.ad = al.ad ++ more
  pv : al'.pv = al.pv
  pvk : ∀ a, al.pv a → H' a = H a
  keep : ∀ a o, H a = some o → ¬ Hot al M a → (∀ ps, o ≠ .tbl ps) → H' a = some o
  dom : ∀ a, sol (H a) → sol (H' a)
  alive : ∀ (n : Nat), n < al.ad.length → live M' n → live M n
  new : ∀ (n : Nat) a, al.ad.length ≤ n → al'.ad[n]? = some a → ¬ sol (H a)
structure Envr (K : PySem.W.Frag) (H : Hp) (al : Am) (M : Store) (σ : L2.St) (ρ : Rho) : Prop where
  len : ρ.length = σ.length
  at_ : ∀ (i : Nat) d, ρ[i]? = some (some d) → ∃ v, σ[i]? = some (some v) ∧ Rep K H al M d v

section
variable {X : Gx} {K : PySem.W.Frag} {H H' H1 H2 : Hp} {al al' al1 al2 : Am} {M M' M1 M2 : Store} {a p : PySem.Addr} {n : Nat} {o : HO} {ob : Ob}
theorem live_lt (h : live M n) : n < M.length := by
  obtain ⟨o, e, _⟩ := h
  exact (List.getElem?_eq_some_iff.mp e).1
/-- what stands at a hot address -/
theorem Sto.hot (S : Sto X H al M) (h : Hot al M a) : (∃ vs, H a = some (.lst vs)) ∨ (∃ C dx fs, H a = some (.ins C dx fs)) ∨ (∃ xs, H a = some (.dK xs)) ∨ ∃ xs, H a = some (.dT xs) := by
  rcases h with ⟨n, ⟨o, e, hd⟩, ha⟩ | h
  · have := S.at_ n o a e ha
    cases o with
    | dead => cases hd
    | fdic tk kvs => cases hd
    | lst ds => obtain ⟨vs, e, _⟩ := this; exact .inl ⟨vs, e⟩
    | ins c fs => obtain ⟨dx, vfs, e, _⟩ := this; exact .inr (.inl ⟨_, dx, vfs, e⟩)
    | dic tk kvs =>
      obtain ⟨u, e, r⟩ := this
      cases tk with
      | false => obtain ⟨xs, rfl, _⟩ := r; exact .inr (.inr (.inl ⟨xs, e⟩))
      | true => obtain ⟨xs, rfl, _⟩ := r; exact .inr (.inr (.inr ⟨xs, e⟩))
  · exact .inl (S.pvl a h)
theorem tabs_upd {T : List (PySem.Addr × Str)} (t : LamX.Tabs T H) (ha : ∀ u, H a = some u → (∀ ps, u ≠ .tbl ps) ∧ ∀ c q, u ≠ LamX.CodeO c q) : LamX.Tabs T (L2.upd H a o) := by
  intro p hp
  obtain ⟨ps, h1, h2, h3⟩ := t p hp
  refine ⟨ps, by rw [upd_ne (by rintro rfl; exact (ha _ h1).1 ps rfl)]; exact h1, h2, fun pos cv hc => ?_⟩
  obtain ⟨c, e1, e2⟩ := h3 pos cv hc
  exact ⟨c, e1, by rw [upd_ne (by rintro rfl; exact (ha _ e2).2 _ _ rfl)]; exact e2⟩
theorem lst_tab {vs : List V} : (∀ ps, HO.lst vs ≠ .tbl ps) ∧ ∀ c q, HO.lst vs ≠ LamX.CodeO c q := ⟨fun _ h => (by cases h), fun _ _ h => (by unfold LamX.CodeO at h; cases h)⟩
theorem Sto.hot_tab (S : Sto X H al M) (h : Hot al M a) : ∀ u, H a = some u → (∀ ps, u ≠ .tbl ps) ∧ ∀ c q, u ≠ LamX.CodeO c q := by
  intro u e
  rcases S.hot h with ⟨_, q⟩ | ⟨_, _, _, q⟩ | ⟨_, q⟩ | ⟨_, q⟩ <;> rw [q] at e <;> cases e <;> exact ⟨fun _ h => (by cases h), fun _ _ h => (by unfold LamX.CodeO at h; cases h)⟩
theorem fresh_tab (hp : H a = none) : ∀ u, H a = some u → (∀ ps, u ≠ .tbl ps) ∧ ∀ c q, u ≠ LamX.CodeO c q := fun u e => by rw [hp] at e; cases e
theorem Sto.ne (S : Sto X H al M) (h : Hot al M a) : H a ≠ none := by
  rcases S.hot h with ⟨_, e⟩ | ⟨_, _, _, e⟩ | ⟨_, e⟩ | ⟨_, e⟩ <;> rw [e] <;> simp
/-- what stands at a place that is not dead -/
theorem Obr.some_ (h : Obr X H al M ob a) (hd : ob ≠ .dead) : H a ≠ none := by
  cases ob with
  | dead => exact absurd rfl hd
  | lst ds => obtain ⟨vs, e, _⟩ := h; rw [e]; simp
  | ins c fs => obtain ⟨dx, vfs, e, _⟩ := h; rw [e]; simp
  | dic tk kvs => obtain ⟨u, e, _⟩ := h; rw [e]; simp
  | fdic tk kvs => obtain ⟨o, u, e, _⟩ := h; rw [e]; simp
/-- two places stand apart -/
theorem Sto.apart (S : Sto X H al M) (hn : live M n) (ha : al.ad[n]? = some a) {k : Nat} {u : Ob} {b : PySem.Addr} (e : M[k]? = some u) (hb : al.ad[k]? = some b) (hk : n ≠ k) (hu : u ≠ .dead) : b ≠ a := by
  rintro rfl
  exact hk (S.inj n k b hn.nd ⟨u, e, hu⟩ ha hb)
theorem Stp.refl : Stp H al M H al M := ⟨⟨[], by simp⟩, rfl, fun _ _ => rfl, fun _ _ e _ _ => e, fun _ h => h, fun _ _ h => h, fun n a hn e => by
  have := (List.getElem?_eq_some_iff.mp e).1; omega⟩
theorem Stp.get (s : Stp H al M H' al' M') {x : PySem.Addr} (h : al.ad[n]? = some x) : al'.ad[n]? = some x := by
  obtain ⟨more, e⟩ := s.pre
  rw [e, List.getElem?_append_left (List.getElem?_eq_some_iff.mp h).1]
  exact h
theorem Stp.nothot (s : Stp H al M H' al' M') (h : ¬ Hot al M a) (hs : sol (H a)) : ¬ Hot al' M' a := by
  rintro (⟨n, hl, e⟩ | hp)
  · by_cases hn : n < al.ad.length
    · refine h (.inl ⟨n, s.alive n hn hl, ?_⟩)
      obtain ⟨more, e'⟩ := s.pre
      rw [e', List.getElem?_append_left hn] at e
      exact e
    · exact s.new n a (Nat.le_of_not_lt hn) e hs
  · exact h (.inr (by rw [← s.pv]; exact hp))
theorem Stp.trans (s : Stp H al M H1 al1 M1) (t : Stp H1 al1 M1 H2 al2 M2) : Stp H al M H2 al2 M2 := by
  obtain ⟨m1, e1⟩ := id s.pre
  obtain ⟨m2, e2⟩ := id t.pre
  refine ⟨⟨m1 ++ m2, by rw [e2, e1, List.append_assoc]⟩, t.pv.trans s.pv, fun a h => (t.pvk a (by rw [s.pv]; exact h)).trans (s.pvk a h), fun a o e h ht => ?_, fun a h => t.dom a (s.dom a h), fun n hn hl => ?_, fun n a hn e => ?_⟩
  · exact t.keep a o (s.keep a o e h ht) (s.nothot h (by rw [e]; exact sol_some ht)) ht
  · refine s.alive n hn (t.alive n ?_ hl)
    rw [e1, List.length_append]; omega
  · by_cases h1 : n < al1.ad.length
    · have : al1.ad[n]? = some a := by
        rw [e2, List.getElem?_append_left h1] at e
        exact e
      exact s.new n a hn this
    · exact fun q => t.new n a (Nat.le_of_not_lt h1) e (s.dom a q)

theorem Sto.tup_nothot (S : Sto X H al M) {vs : List V} (e : H a = some (.tup vs)) : ¬ Hot al M a := fun h => by
  rcases S.hot h with ⟨_, q⟩ | ⟨_, _, _, q⟩ | ⟨_, q⟩ | ⟨_, q⟩ <;> rw [e] at q <;> cases q
theorem Sto.frz_nothot (S : Sto X H al M) {ob : PySem.Obj} {u : HO} (e : H a = some (.frz ob u)) : ¬ Hot al M a := fun h => by
  rcases S.hot h with ⟨_, q⟩ | ⟨_, _, _, q⟩ | ⟨_, q⟩ | ⟨_, q⟩ <;> rw [e] at q <;> cases q
theorem Scr.mono (S : Sto X H al M) (s : Stp H al M H' al' M') {ns : List Int} (h : Scr K H al M a ns) : Scr K H' al' M' a ns := by
  rcases h with ⟨h, h2⟩ | ⟨o, h⟩ | h
  · exact .inl ⟨s.keep a _ h h2 (fun _ h => by cases h), s.nothot h2 (by rw [h]; exact sol_some fun _ h => by cases h)⟩
  · exact .inr (.inl ⟨o, s.keep a _ h (S.frz_nothot h) (fun _ h => by cases h)⟩)
  · exact .inr (.inr h)
theorem Scr.cold {ns : List Int} (h : Scr K H al M a ns) (hn : Hot al' M' a → Hot al M a) : Scr K H al' M' a ns := by
  rcases h with ⟨h, h2⟩ | h
  · exact .inl ⟨h, fun q => h2 (hn q)⟩
  · exact .inr h
mutual
theorem Rep.mono (S : Sto X H al M) (s : Stp H al M H' al' M') : ∀ (d : D) (v : V), Rep K H al M d v → Rep K H' al' M' d v
  | .non, _, h => by rw [Rep] at h ⊢; exact h
  | .bl _, _, h => by rw [Rep] at h ⊢; exact h
  | .int _, _, h => by rw [Rep] at h ⊢; exact h
  | .str _, _, h => by rw [Rep] at h ⊢; exact h
  | .tup ds, v, h => by
    rw [Rep] at h ⊢
    obtain ⟨a, vs, e, h1, h2⟩ := h
    exact ⟨a, vs, e, s.keep a _ h1 (S.tup_nothot h1) (fun _ h => by cases h), Reps.mono S s ds vs h2⟩
  | .lst ds, v, h => by
    rw [Rep] at h ⊢
    obtain ⟨a, vs, e, h1, h2, h3⟩ := h
    exact ⟨a, vs, e, s.keep a _ h1 h2 (fun _ h => by cases h), s.nothot h2 (by rw [h1]; exact sol_some fun _ h => by cases h), Reps.mono S s ds vs h3⟩
  | .scr ns, v, h => by
    rw [Rep] at h ⊢
    obtain ⟨a, e, h1⟩ := h
    exact ⟨a, e, h1.mono S s⟩
  | .ptr n, v, h => by
    rw [Rep] at h ⊢
    obtain ⟨a, e, h1⟩ := h
    exact ⟨a, e, s.get h1⟩
theorem Reps.mono (S : Sto X H al M) (s : Stp H al M H' al' M') : ∀ (ds : List D) (vs : List V), Reps K H al M ds vs → Reps K H' al' M' ds vs
  | [], _, h => by rw [Reps] at h ⊢; exact h
  | d :: ds, vs, h => by
    rw [Reps] at h ⊢
    obtain ⟨v, r, e, h1, h2⟩ := h
    exact ⟨v, r, e, Rep.mono S s d v h1, Reps.mono S s ds r h2⟩
end
theorem Fsr.mono {nm : Nat → Str} (S : Sto X H al M) (s : Stp H al M H' al' M') : ∀ (fs : List (Nat × D)) (vs : List (Str × V)), Fsr nm K H al M fs vs → Fsr nm K H' al' M' fs vs
  | [], _, h => h
  | p :: ds, vs, h => by
    obtain ⟨v, r, e, h1, h2⟩ := h
    exact ⟨v, r, e, Rep.mono S s _ v h1, Fsr.mono S s ds r h2⟩
theorem Dr.mono {κ : Type} {kf : κ → D} (S : Sto X H al M) (s : Stp H al M H' al' M') : ∀ (ds : List (D × D)) (vs : List (κ × V)), Dr kf K H al M ds vs → Dr kf K H' al' M' ds vs
  | [], _, h => h
  | p :: ds, vs, h => by
    obtain ⟨k, v, r, e, hk, h1, h2⟩ := h
    exact ⟨k, v, r, e, hk, Rep.mono S s _ v h1, Dr.mono S s ds r h2⟩
theorem Dcr.mono {tk : Bool} {kvs : List (D × D)} {u : HO} (S : Sto X H al M) (s : Stp H al M H' al' M') (h : Dcr tk K H al M kvs u) : Dcr tk K H' al' M' kvs u := by
  cases tk with
  | false => obtain ⟨xs, e, r⟩ := h; exact ⟨xs, e, r.mono S s⟩
  | true => obtain ⟨xs, e, r⟩ := h; exact ⟨xs, e, r.mono S s⟩
theorem Envr.mono {σ : L2.St} {ρ : Rho} (S : Sto X H al M) (s : Stp H al M H' al' M') (h : Envr K H al M σ ρ) : Envr K H' al' M' σ ρ :=
  ⟨h.len, fun i d e => let ⟨v, e1, r⟩ := h.at_ i d e; ⟨v, e1, r.mono S s⟩⟩
theorem Envr.set {σ : L2.St} {ρ : Rho} {d : D} {v : V} (h : Envr K H al M σ ρ) (r : Rep K H al M d v) (i : Nat) : Envr K H al M (σ.set i (some v)) (ρ.set i (some d)) := by
  refine ⟨by simp [h.len], fun j d' e => ?_⟩
  by_cases hj : i = j
  · subst hj
    have hlt : i < ρ.length := by
      have := (List.getElem?_eq_some_iff.mp e).1; simpa using this
    rw [List.getElem?_set_self hlt] at e
    cases e
    exact ⟨v, by rw [List.getElem?_set_self (by rw [← h.len]; exact hlt)], r⟩
  · rw [List.getElem?_set_ne hj] at e
    rw [List.getElem?_set_ne hj]
    exact h.at_ j d' e
theorem Reps.length : ∀ {ds : List D} {vs : List V}, Reps K H al M ds vs → vs.length = ds.length
  | [], vs, h => by rw [Reps] at h; subst h; rfl
  | d :: ds, vs, h => by
    rw [Reps] at h
    obtain ⟨v, r, e, _, h2⟩ := h
    rw [e, List.length_cons, List.length_cons, Reps.length h2]
theorem Reps.get : ∀ {ds : List D} {vs : List V} {i : Nat} {d : D}, Reps K H al M ds vs → ds[i]? = some d → ∃ v, vs[i]? = some v ∧ Rep K H al M d v
  | [], _, _, _, _, e => by simp at e
  | d :: ds, vs, i, d', h, e => by
    rw [Reps] at h
    obtain ⟨v, r, e1, h1, h2⟩ := h
    subst e1
    cases i with
    | zero => simp at e; subst e; exact ⟨v, by simp, h1⟩
    | succ i =>
      obtain ⟨v', q1, q2⟩ := Reps.get (i := i) h2 (by simpa using e)
      exact ⟨v', by simpa using q1, q2⟩
theorem Reps.get' : ∀ {ds : List D} {vs : List V} {i : Nat} {v : V}, Reps K H al M ds vs → vs[i]? = some v → ∃ d, ds[i]? = some d ∧ Rep K H al M d v := fun {ds vs i v} h e => by
  have hl := h.length
  have hi := (List.getElem?_eq_some_iff.mp e).1
  have : i < ds.length := by omega
  obtain ⟨v', q1, q2⟩ := h.get (i := i) (d := ds[i]) (by simp [this])
  rw [e] at q1; cases q1
  exact ⟨_, by simp [this], q2⟩
theorem Reps.append : ∀ {ds es : List D} {vs ws : List V}, Reps K H al M ds vs → Reps K H al M es ws → Reps K H al M (ds ++ es) (vs ++ ws)
  | [], _, _, _, h, t => by rw [Reps] at h; subst h; simpa using t
  | d :: ds, es, vs, ws, h, t => by
    rw [Reps] at h
    obtain ⟨v, r, e, h1, h2⟩ := h
    subst e
    exact .cons h1 (Reps.append h2 t)
theorem Reps.take : ∀ {ds : List D} {vs : List V} (n : Nat), Reps K H al M ds vs → Reps K H al M (ds.take n) (vs.take n)
  | ds, vs, 0, h => by simpa using Reps.nil
  | [], vs, n + 1, h => by rw [Reps] at h; subst h; simpa using Reps.nil
  | d :: ds, vs, n + 1, h => by
    rw [Reps] at h
    obtain ⟨v, r, e, h1, h2⟩ := h
    subst e
    exact .cons h1 (Reps.take n h2)
theorem Reps.drop : ∀ {ds : List D} {vs : List V} (n : Nat), Reps K H al M ds vs → Reps K H al M (ds.drop n) (vs.drop n)
  | ds, vs, 0, h => by simpa using h
  | [], vs, n + 1, h => by rw [Reps] at h; subst h; simpa using Reps.nil
  | d :: ds, vs, n + 1, h => by
    rw [Reps] at h
    obtain ⟨v, r, e, h1, h2⟩ := h
    subst e
    simpa using Reps.drop n h2
theorem Reps.setl {d : D} {v : V} (r : Rep K H al M d v) : ∀ {ds : List D} {vs : List V} (n : Nat), Reps K H al M ds vs → Reps K H al M (ds.set n d) (vs.set n v)
  | [], vs, n, h => by rw [Reps] at h; subst h; simpa using Reps.nil
  | e :: ds, vs, n, h => by
    rw [Reps] at h
    obtain ⟨v', r', e', h1, h2⟩ := h
    subst e'
    cases n with
    | zero => exact .cons r h2
    | succ n => exact .cons h1 (Reps.setl r n h2)
theorem Reps.ints : ∀ {ns : List Int} {vs : List V}, Reps K H al M (ns.map D.int) vs → vs = ns.map V.int
  | [], vs, h => by simpa [Reps] using h
  | n :: ns, vs, h => by
    rw [List.map_cons, Reps] at h
    obtain ⟨v, r, e, h1, h2⟩ := h
    rw [Rep] at h1
    rw [e, h1, Reps.ints h2, List.map_cons]
theorem Reps.of_ints : ∀ (ns : List Int), Reps K H al M (ns.map D.int) (ns.map V.int)
  | [] => by simpa using Reps.nil
  | n :: ns => by rw [List.map_cons, List.map_cons]; exact .cons (by rw [Rep]) (Reps.of_ints ns)
theorem Reps.flatten : ∀ (k : Nat) {ds : List D} {vs : List V}, Reps K H al M ds vs → Reps K H al M (List.replicate k ds).flatten (List.replicate k vs).flatten
  | 0, _, _, _ => by simpa using Reps.nil
  | k + 1, _, _, h => by
    rw [List.replicate_succ, List.flatten_cons, List.replicate_succ, List.flatten_cons]
    exact h.append (Reps.flatten k h)
theorem Reps.dropLast {ds : List D} {vs : List V} (h : Reps K H al M ds vs) : Reps K H al M ds.dropLast vs.dropLast := by
  rw [List.dropLast_eq_take, List.dropLast_eq_take, h.length]; exact h.take _
theorem Reps.erase {ds : List D} {vs : List V} (h : Reps K H al M ds vs) (i : Nat) : Reps K H al M (ds.eraseIdx i) (vs.eraseIdx i) := by
  rw [List.eraseIdx_eq_take_drop_succ, List.eraseIdx_eq_take_drop_succ]; exact (h.take i).append (h.drop _)

theorem Obr.mono (S : Sto X H al M) (s : Stp H al M H' al' M') (h : Obr X H al M ob a) (e : H' a = H a) : Obr X H' al' M' ob a := by
  cases ob with
  | dead => trivial
  | lst ds => obtain ⟨vs, e1, r⟩ := h; exact ⟨vs, by rw [e, e1], r.mono S s⟩
  | ins c fs => obtain ⟨dx, vfs, e1, r, q⟩ := h; exact ⟨dx, vfs, by rw [e, e1], r.mono S s, q⟩
  | dic tk kvs => obtain ⟨u, e1, r⟩ := h; exact ⟨u, by rw [e, e1], r.mono S s⟩
  | fdic tk kvs => obtain ⟨o, u, e1, r⟩ := h; exact ⟨o, u, by rw [e, e1], r.mono S s⟩
theorem live_set (h : live M n) (k : Nat) (hk : live (M.set n ob) k) : live M k := by
  by_cases e : n = k
  · subst e; exact h
  · obtain ⟨o, e1, d⟩ := hk
    rw [List.getElem?_set_ne e] at e1
    exact ⟨o, e1, d⟩
theorem ndl_set (h : live M n) (k : Nat) (hk : ndl (M.set n ob) k) : ndl M k := by
  by_cases e : n = k
  · subst e; exact h.nd
  · obtain ⟨o, e1, d⟩ := hk
    rw [List.getElem?_set_ne e] at e1
    exact ⟨o, e1, d⟩
theorem Stp.chg (S : Sto X H al M) (h : live M n) (ha : al.ad[n]? = some a) (ho : ∀ ps, o ≠ .tbl ps := by (intro _ h; cases h)) : Stp H al M (upd H a o) al (M.set n ob) := by
  refine ⟨⟨[], by simp⟩, rfl, fun b hb => upd_ne (by rintro rfl; exact S.pvd n b h ha hb), fun b u e hb _ => ?_, fun b hb => ?_, fun k _ hk => live_set h k hk, fun k b hk e => ?_⟩
  · rw [upd_ne]; exact e
    rintro rfl; exact hb (.inl ⟨n, h, ha⟩)
  · by_cases q : b = a
    · subst q; rw [upd_same]; exact sol_some ho
    · rw [upd_ne q]; exact hb
  · have := (List.getElem?_eq_some_iff.mp e).1; omega
theorem Sto.chg (S : Sto X H al M) (h : live M n) (ha : al.ad[n]? = some a) (new : Obr X (upd H a o) al (M.set n ob) ob a) (ho : ∀ ps, o ≠ .tbl ps := by (intro _ h; cases h)) : Sto X (upd H a o) al (M.set n ob) := by
  have s : Stp H al M (L2.upd H a o) al (M.set n ob) := Stp.chg S h ha ho
  refine ⟨by simp [S.len], fun k u b e hb => ?_, fun i j b hi hj ei ej => S.inj i j b (ndl_set h i hi) (ndl_set h j hj) ei ej, fun b hb => ?_, fun i b hi e => S.pvd i b (live_set h i hi) e, tabs_upd S.tabs (S.hot_tab (.inl ⟨n, h, ha⟩))⟩
  · by_cases hk : n = k
    · subst hk
      rw [List.getElem?_set_self (live_lt h)] at e
      cases e
      rw [ha] at hb; cases hb
      exact new
    · rw [List.getElem?_set_ne hk] at e
      have old := S.at_ k u b e hb
      cases hu : u with
      | dead => trivial
      | _ =>
        exact (hu ▸ old).mono S s (upd_ne (S.apart h ha e hb hk (by rw [hu]; simp)))
  · obtain ⟨vs, e⟩ := S.pvl b hb
    exact ⟨vs, by rw [upd_ne (by rintro rfl; exact S.pvd n b h ha hb)]; exact e⟩
/-- the object at n is let go: it stays as it is -/
theorem Stp.drop (h : live M n) : Stp H al M H al (M.set n .dead) :=
  ⟨⟨[], by simp⟩, rfl, fun _ _ => rfl, fun _ _ e _ _ => e, fun _ h => h, fun k _ hk => live_set h k hk, fun k b hk e => by have := (List.getElem?_eq_some_iff.mp e).1; omega⟩
theorem Sto.drop (S : Sto X H al M) (h : live M n) : Sto X H al (M.set n .dead) := by
  have s : Stp H al M H al (M.set n .dead) := Stp.drop h
  refine ⟨by simp [S.len], fun k u b e hb => ?_, fun i j b hi hj ei ej => S.inj i j b (ndl_set h i hi) (ndl_set h j hj) ei ej, S.pvl, fun i b hi e => S.pvd i b (live_set h i hi) e, S.tabs⟩
  by_cases hk : n = k
  · subst hk
    rw [List.getElem?_set_self (live_lt h)] at e
    cases e
    trivial
  · rw [List.getElem?_set_ne hk] at e
    exact (S.at_ k u b e hb).mono S s rfl
theorem Sto.cold_of_drop (S : Sto X H al M) (h : live M n) (ha : al.ad[n]? = some a) : ¬ Hot al (M.set n .dead) a := by
  rintro (⟨k, hk, e⟩ | hp)
  · have : n = k := S.inj n k a h.nd (live_set h k hk).nd ha e
    subst this
    obtain ⟨o, e1, d⟩ := hk
    rw [List.getElem?_set_self (live_lt h)] at e1
    cases e1
    cases d
  · exact S.pvd n a h ha hp
theorem Sto.fresh_nothot (S : Sto X H al M) (hp : H p = none) : ¬ Hot al M p := fun h => S.ne h hp
theorem Sto.fresh_nopv (S : Sto X H al M) (hp : H p = none) : ¬ al.pv p := fun h => S.ne (.inr h) hp
theorem Stp.cold (S : Sto X H al M) (hp : H p = none) : Stp H al M (upd H p o) al M :=
  ⟨⟨[], by simp⟩, rfl, fun b hb => upd_ne (by rintro rfl; exact S.fresh_nopv hp hb), fun b u e _ _ => by rw [upd_ne (L2.ne_of_none e hp)]; exact e, fun b hb => by
    by_cases q : b = p
    · subst q; rw [hp] at hb; exact absurd hb sol_none
    · rw [upd_ne q]; exact hb, fun _ _ h => h, fun k b hk e => by have := (List.getElem?_eq_some_iff.mp e).1; omega⟩
theorem Sto.cold (S : Sto X H al M) (hp : H p = none) : Sto X (upd H p o) al M := by
  have s : Stp H al M (L2.upd H p o) al M := Stp.cold S hp
  refine ⟨S.len, fun k u b e hb => ?_, S.inj, fun b hb => ?_, S.pvd, tabs_upd S.tabs (fresh_tab hp)⟩
  · cases hu : u with
    | dead => trivial
    | _ =>
      refine (hu ▸ S.at_ k u b e hb).mono S s (upd_ne ?_)
      rintro rfl
      exact (S.at_ k u b e hb).some_ (by rw [hu]; simp) hp
  · obtain ⟨vs, e⟩ := S.pvl b hb
    exact ⟨vs, by rw [upd_ne (by rintro rfl; exact S.fresh_nopv hp hb)]; exact e⟩
theorem live_app {k : Nat} (hk : k < M.length) : live (M ++ [ob]) k ↔ live M k := by
  unfold live
  rw [List.getElem?_append_left hk]
theorem ndl_app {k : Nat} (hk : k < M.length) : ndl (M ++ [ob]) k ↔ ndl M k := by
  unfold ndl
  rw [List.getElem?_append_left hk]
theorem add_get {k : Nat} {b : PySem.Addr} (e : (al.add p).ad[k]? = some b) : (k < al.ad.length ∧ al.ad[k]? = some b) ∨ (k = al.ad.length ∧ b = p) := by
  unfold Am.add at e
  by_cases hk : k < al.ad.length
  · rw [List.getElem?_append_left hk] at e; exact .inl ⟨hk, e⟩
  · have hl := (List.getElem?_eq_some_iff.mp e).1
    rw [List.length_append, List.length_singleton] at hl
    have : k = al.ad.length := by omega
    subst this
    simp at e
    exact .inr ⟨rfl, e.symm⟩
theorem Stp.alloc (S : Sto X H al M) (hp : H p = none) : Stp H al M (upd H p o) (al.add p) (M ++ [ob]) := by
  have c : Stp H al M (L2.upd H p o) al M := Stp.cold S hp
  refine ⟨⟨[p], rfl⟩, rfl, c.pvk, c.keep, c.dom, fun k hk h => (live_app (by rw [← S.len]; exact hk)).mp h, fun k b hk e => ?_⟩
  rcases add_get e with ⟨h1, _⟩ | ⟨_, rfl⟩
  · omega
  · rw [hp]; exact sol_none
/-- an object at p is taken into the store -/
theorem Sto.take_in (S : Sto X H al M) (hpd : ∀ (k : Nat) u, M[k]? = some u → u ≠ Ob.dead → al.ad[k]? ≠ some p) (hpv : ¬ al.pv p) (mono : ∀ u b, u ≠ Ob.dead → Obr X H al M u b → b ≠ p → Obr X H' (al.add p) (M ++ [ob]) u b) (pvl : ∀ a, al.pv a → ∃ vs, H' a = some (.lst vs))
    (new : Obr X H' (al.add p) (M ++ [ob]) ob p) (tabs : LamX.Tabs X.tbs H') : Sto X H' (al.add p) (M ++ [ob]) := by
  have hS := S.len
  refine ⟨by simp [Am.add, S.len], fun k u b e hb => ?_, fun i j b hi hj ei ej => ?_, pvl, fun i b hi e => ?_, tabs⟩
  · rcases add_get hb with ⟨hk, hc⟩ | ⟨hk, hc⟩
    · rw [List.getElem?_append_left (by omega)] at e
      by_cases hu : u = .dead
      · subst hu; trivial
      · exact mono u b hu (S.at_ k u b e hc) (by rintro rfl; exact hpd k u e hu hc)
    · subst hc hk
      rw [hS] at e
      simp at e
      rw [← e]; exact new
  · rcases add_get ei with ⟨h1, e1⟩ | ⟨h1, e1⟩ <;> rcases add_get ej with ⟨h2, e2⟩ | ⟨h2, e2⟩
    · exact S.inj i j b ((ndl_app (by omega)).mp hi) ((ndl_app (by omega)).mp hj) e1 e2
    · subst e2
      obtain ⟨o, e, ho⟩ := (ndl_app (by omega)).mp hi
      exact absurd e1 (hpd i o e ho)
    · subst e1
      obtain ⟨o, e, ho⟩ := (ndl_app (by omega)).mp hj
      exact absurd e2 (hpd j o e ho)
    · rw [h1, h2]
  · rcases add_get e with ⟨h1, e1⟩ | ⟨h1, e1⟩
    · exact S.pvd i b ((live_app (by omega)).mp hi) e1
    · subst e1; exact hpv
theorem Sto.alloc (S : Sto X H al M) (hp : H p = none) (new : Obr X (upd H p o) (al.add p) (M ++ [ob]) ob p) : Sto X (upd H p o) (al.add p) (M ++ [ob]) := by
  have s : Stp H al M (L2.upd H p o) (al.add p) (M ++ [ob]) := Stp.alloc S hp
  refine S.take_in (fun k u e hu hc => (S.at_ k u p e hc).some_ hu hp) (S.fresh_nopv hp) (fun u b hu h hb => h.mono S s (upd_ne hb)) (fun b hb => ?_) new (tabs_upd S.tabs (fresh_tab hp))
  obtain ⟨vs, e⟩ := S.pvl b hb
  exact ⟨vs, by rw [upd_ne (by rintro rfl; exact S.fresh_nopv hp hb)]; exact e⟩
/-- the same heap, fewer hot addresses -/
structure Reh (al : Am) (M : Store) (al' : Am) (M' : Store) : Prop where
  pre : ∃ more, al'.ad = al.ad ++ more
  hot : ∀ a, Hot al' M' a → Hot al M a
theorem Reh.get (s : Reh al M al' M') {x : PySem.Addr} (h : al.ad[n]? = some x) : al'.ad[n]? = some x := by
  obtain ⟨more, e⟩ := s.pre
  rw [e, List.getElem?_append_left (List.getElem?_eq_some_iff.mp h).1]
  exact h
mutual
theorem Rep.reh (s : Reh al M al' M') : ∀ (d : D) (v : V), Rep K H al M d v → Rep K H al' M' d v
  | .non, _, h => by rw [Rep] at h ⊢; exact h
  | .bl _, _, h => by rw [Rep] at h ⊢; exact h
  | .int _, _, h => by rw [Rep] at h ⊢; exact h
  | .str _, _, h => by rw [Rep] at h ⊢; exact h
  | .tup ds, v, h => by
    rw [Rep] at h ⊢
    obtain ⟨a, vs, e, h1, h2⟩ := h
    exact ⟨a, vs, e, h1, Reps.reh s ds vs h2⟩
  | .lst ds, v, h => by
    rw [Rep] at h ⊢
    obtain ⟨a, vs, e, h1, h2, h3⟩ := h
    exact ⟨a, vs, e, h1, fun q => h2 (s.hot _ q), Reps.reh s ds vs h3⟩
  | .scr ns, v, h => by
    rw [Rep] at h ⊢
    obtain ⟨a, e, h1⟩ := h
    exact ⟨a, e, h1.cold fun q => s.hot _ q⟩
  | .ptr n, v, h => by
    rw [Rep] at h ⊢
    obtain ⟨a, e, h1⟩ := h
    exact ⟨a, e, s.get h1⟩
theorem Reps.reh (s : Reh al M al' M') : ∀ (ds : List D) (vs : List V), Reps K H al M ds vs → Reps K H al' M' ds vs
  | [], _, h => by rw [Reps] at h ⊢; exact h
  | d :: ds, vs, h => by
    rw [Reps] at h ⊢
    obtain ⟨v, r, e, h1, h2⟩ := h
    exact ⟨v, r, e, Rep.reh s d v h1, Reps.reh s ds r h2⟩
end
theorem Fsr.reh {nm : Nat → Str} (s : Reh al M al' M') : ∀ (fs : List (Nat × D)) (vs : List (Str × V)), Fsr nm K H al M fs vs → Fsr nm K H al' M' fs vs
  | [], _, h => h
  | p :: ds, vs, h => by
    obtain ⟨v, r, e, h1, h2⟩ := h
    exact ⟨v, r, e, Rep.reh s _ v h1, Fsr.reh s ds r h2⟩
theorem Dr.reh {κ : Type} {kf : κ → D} (s : Reh al M al' M') : ∀ (ds : List (D × D)) (vs : List (κ × V)), Dr kf K H al M ds vs → Dr kf K H al' M' ds vs
  | [], _, h => h
  | p :: ds, vs, h => by
    obtain ⟨k, v, r, e, hk, h1, h2⟩ := h
    exact ⟨k, v, r, e, hk, Rep.reh s _ v h1, Dr.reh s ds r h2⟩
theorem Dcr.reh {tk : Bool} {kvs : List (D × D)} {u : HO} (s : Reh al M al' M') (h : Dcr tk K H al M kvs u) : Dcr tk K H al' M' kvs u := by
  cases tk with
  | false => obtain ⟨xs, e, r⟩ := h; exact ⟨xs, e, r.reh s⟩
  | true => obtain ⟨xs, e, r⟩ := h; exact ⟨xs, e, r.reh s⟩
theorem Obr.reh (s : Reh al M al' M') (h : Obr X H al M ob a) : Obr X H al' M' ob a := by
  cases ob with
  | dead => trivial
  | lst ds => obtain ⟨vs, e1, r⟩ := h; exact ⟨vs, e1, Reps.reh s _ _ r⟩
  | ins c fs => obtain ⟨dx, vfs, e1, r, q⟩ := h; exact ⟨dx, vfs, e1, Fsr.reh s _ _ r, q⟩
  | dic tk kvs => obtain ⟨u, e1, r⟩ := h; exact ⟨u, e1, r.reh s⟩
  | fdic tk kvs => obtain ⟨o, u, e1, r⟩ := h; exact ⟨o, u, e1, r.reh s⟩
theorem Envr.reh {σ : L2.St} {ρ : Rho} (s : Reh al M al' M') (h : Envr K H al M σ ρ) : Envr K H al' M' σ ρ :=
  ⟨h.len, fun i d e => let ⟨v, e1, r⟩ := h.at_ i d e; ⟨v, e1, Rep.reh s _ _ r⟩⟩
/-- what was laid behind a place is let go -/
theorem live_take {n k : Nat} (h : live (M.take n) k) : live M k := by
  obtain ⟨o, e, d⟩ := h
  refine ⟨o, ?_, d⟩
  by_cases hk : k < n
  · rwa [List.getElem?_take_of_lt hk] at e
  · rw [List.getElem?_take_eq_none (Nat.le_of_not_lt hk)] at e; cases e
theorem ndl_take {n k : Nat} (h : ndl (M.take n) k) : ndl M k := by
  obtain ⟨o, e, d⟩ := h
  refine ⟨o, ?_, d⟩
  by_cases hk : k < n
  · rwa [List.getElem?_take_of_lt hk] at e
  · rw [List.getElem?_take_eq_none (Nat.le_of_not_lt hk)] at e; cases e
mutual
/-- what is under the older places' number stands in the older store -/
theorem Rep.cut (Hn : ∀ a, Hot al' M' a → Hot al M a) (pre : ∀ (n : Nat) a, n < al'.ad.length → al.ad[n]? = some a → al'.ad[n]? = some a) : ∀ (d : D) (v : V), underD al'.ad.length d = true → Rep K H al M d v → Rep K H al' M' d v
  | .non, _, _, h => by rw [Rep] at h ⊢; exact h
  | .bl _, _, _, h => by rw [Rep] at h ⊢; exact h
  | .int _, _, _, h => by rw [Rep] at h ⊢; exact h
  | .str _, _, _, h => by rw [Rep] at h ⊢; exact h
  | .tup ds, v, p, h => by
    rw [Rep] at h ⊢
    obtain ⟨a, vs, e, h1, h2⟩ := h
    exact ⟨a, vs, e, h1, Reps.cut Hn pre ds vs (by simpa [underD] using p) h2⟩
  | .lst ds, v, p, h => by
    rw [Rep] at h ⊢
    obtain ⟨a, vs, e, h1, h2, h3⟩ := h
    exact ⟨a, vs, e, h1, fun q => h2 (Hn _ q), Reps.cut Hn pre ds vs (by simpa [underD] using p) h3⟩
  | .scr ns, v, _, h => by
    rw [Rep] at h ⊢
    obtain ⟨a, e, h1⟩ := h
    exact ⟨a, e, h1.cold fun q => Hn _ q⟩
  | .ptr n, v, p, h => by
    rw [Rep] at h ⊢
    obtain ⟨a, e, h1⟩ := h
    exact ⟨a, e, pre n a (by simpa [underD] using p) h1⟩
theorem Reps.cut (Hn : ∀ a, Hot al' M' a → Hot al M a) (pre : ∀ (n : Nat) a, n < al'.ad.length → al.ad[n]? = some a → al'.ad[n]? = some a) : ∀ (ds : List D) (vs : List V), underDs al'.ad.length ds = true → Reps K H al M ds vs → Reps K H al' M' ds vs
  | [], _, _, h => by rw [Reps] at h ⊢; exact h
  | d :: ds, vs, p, h => by
    rw [Reps] at h ⊢
    obtain ⟨v, r, e, h1, h2⟩ := h
    rw [underDs, Bool.and_eq_true] at p
    exact ⟨v, r, e, Rep.cut Hn pre d v p.1 h1, Reps.cut Hn pre ds r p.2 h2⟩
end
theorem Fsr.cut {nm : Nat → Str} (Hn : ∀ a, Hot al' M' a → Hot al M a) (pre : ∀ (n : Nat) a, n < al'.ad.length → al.ad[n]? = some a → al'.ad[n]? = some a) : ∀ (fs : List (Nat × D)) (vs : List (Str × V)), (fs.all fun p => underD al'.ad.length p.2) = true → Fsr nm K H al M fs vs → Fsr nm K H al' M' fs vs
  | [], _, _, h => h
  | p :: ds, vs, u, h => by
    obtain ⟨v, r, e, h1, h2⟩ := h
    rw [List.all_cons, Bool.and_eq_true] at u
    exact ⟨v, r, e, Rep.cut Hn pre _ v u.1 h1, Fsr.cut Hn pre ds r u.2 h2⟩
theorem kD_under {k : Nat} (x : L2.Key) : underD k (kD x) = true := by cases x <;> rfl
theorem tD_under {k : Nat} (x : List L2.Key) : underD k (tD x) = true := by
  unfold tD
  rw [underD]
  induction x with
  | nil => rfl
  | cons a r ih => rw [List.map_cons, underDs, kD_under, ih]; rfl
theorem Dr.cut {κ : Type} {kf : κ → D} (Hn : ∀ a, Hot al' M' a → Hot al M a) (pre : ∀ (n : Nat) a, n < al'.ad.length → al.ad[n]? = some a → al'.ad[n]? = some a) : ∀ (ds : List (D × D)) (vs : List (κ × V)), (ds.all fun p => underD al'.ad.length p.1 && underD al'.ad.length p.2) = true → Dr kf K H al M ds vs → Dr kf K H al' M' ds vs
  | [], _, _, h => h
  | p :: ds, vs, u, h => by
    obtain ⟨k, v, r, e, hk, h1, h2⟩ := h
    rw [List.all_cons, Bool.and_eq_true, Bool.and_eq_true] at u
    exact ⟨k, v, r, e, hk, Rep.cut Hn pre _ v u.1.2 h1, Dr.cut Hn pre ds r u.2 h2⟩
theorem Dcr.cut {tk : Bool} {kvs : List (D × D)} {u : HO} (Hn : ∀ a, Hot al' M' a → Hot al M a) (pre : ∀ (n : Nat) a, n < al'.ad.length → al.ad[n]? = some a → al'.ad[n]? = some a) (un : (kvs.all fun p => underD al'.ad.length p.1 && underD al'.ad.length p.2) = true) (h : Dcr tk K H al M kvs u) : Dcr tk K H al' M' kvs u := by
  cases tk with
  | false => obtain ⟨xs, e, r⟩ := h; exact ⟨xs, e, r.cut Hn pre _ _ un⟩
  | true => obtain ⟨xs, e, r⟩ := h; exact ⟨xs, e, r.cut Hn pre _ _ un⟩
theorem Obr.cut (Hn : ∀ a, Hot al' M' a → Hot al M a) (pre : ∀ (n : Nat) a, n < al'.ad.length → al.ad[n]? = some a → al'.ad[n]? = some a) (u : underO al'.ad.length ob = true) (h : Obr X H al M ob a) : Obr X H al' M' ob a := by
  cases ob with
  | dead => trivial
  | lst ds => obtain ⟨vs, e1, r⟩ := h; exact ⟨vs, e1, Reps.cut Hn pre _ _ (by simpa [underO] using u) r⟩
  | ins c fs => obtain ⟨dx, vfs, e1, r, q⟩ := h; exact ⟨dx, vfs, e1, Fsr.cut Hn pre _ _ (by simpa [underO] using u) r, q⟩
  | dic tk kvs => obtain ⟨v, e1, r⟩ := h; exact ⟨v, e1, r.cut Hn pre (by rw [underO] at u; exact u)⟩
  | fdic tk kvs => obtain ⟨o, v, e1, r⟩ := h; exact ⟨o, v, e1, r.cut Hn pre (by rw [underO] at u; exact u)⟩
mutual
theorem Rep.under : ∀ (d : D) (v : V), Rep K H al M d v → underD al.ad.length d = true
  | .non, _, _ => rfl
  | .bl _, _, _ => rfl
  | .int _, _, _ => rfl
  | .str _, _, _ => rfl
  | .tup ds, v, h => by
    rw [Rep] at h
    obtain ⟨a, vs, e, h1, h2⟩ := h
    simpa [underD] using Reps.under ds vs h2
  | .lst ds, v, h => by
    rw [Rep] at h
    obtain ⟨a, vs, e, h1, h2, h3⟩ := h
    simpa [underD] using Reps.under ds vs h3
  | .scr ns, v, _ => rfl
  | .ptr n, v, h => by
    rw [Rep] at h
    obtain ⟨a, e, h1⟩ := h
    simpa [underD] using (List.getElem?_eq_some_iff.mp h1).1
theorem Reps.under : ∀ (ds : List D) (vs : List V), Reps K H al M ds vs → underDs al.ad.length ds = true
  | [], _, _ => rfl
  | d :: ds, vs, h => by
    rw [Reps] at h
    obtain ⟨v, r, e, h1, h2⟩ := h
    rw [underDs, Rep.under d v h1, Reps.under ds r h2]; rfl
end
theorem Fsr.under {nm : Nat → Str} : ∀ (fs : List (Nat × D)) (vs : List (Str × V)), Fsr nm K H al M fs vs → (fs.all fun p => underD al.ad.length p.2) = true
  | [], _, _ => rfl
  | p :: ds, vs, h => by
    obtain ⟨v, r, e, h1, h2⟩ := h
    rw [List.all_cons, Rep.under _ v h1, Fsr.under ds r h2]; rfl
theorem Dr.under {κ : Type} {kf : κ → D} (hk : ∀ k x, underD k (kf x) = true) : ∀ (ds : List (D × D)) (vs : List (κ × V)), Dr kf K H al M ds vs → (ds.all fun p => underD al.ad.length p.1 && underD al.ad.length p.2) = true
  | [], _, _ => rfl
  | p :: ds, vs, h => by
    obtain ⟨k, v, r, e, hk', h1, h2⟩ := h
    rw [List.all_cons, Rep.under _ v h1, Dr.under hk ds r h2, hk', hk]; rfl
theorem Dcr.under {tk : Bool} {kvs : List (D × D)} {u : HO} (h : Dcr tk K H al M kvs u) : (kvs.all fun p => underD al.ad.length p.1 && underD al.ad.length p.2) = true := by
  cases tk with
  | false => obtain ⟨xs, e, r⟩ := h; exact r.under (fun _ x => kD_under x)
  | true => obtain ⟨xs, e, r⟩ := h; exact r.under (fun _ x => tD_under x)
theorem Obr.under (h : Obr X H al M ob a) : underO al.ad.length ob = true := by
  cases ob with
  | dead => rfl
  | lst ds => obtain ⟨vs, e1, r⟩ := h; exact Reps.under _ _ r
  | ins c fs => obtain ⟨dx, vfs, e1, r, q⟩ := h; exact Fsr.under _ _ r
  | dic tk kvs => obtain ⟨v, e1, r⟩ := h; rw [underO]; exact r.under
  | fdic tk kvs => obtain ⟨o, v, e1, r⟩ := h; rw [underO]; exact r.under
/-- behind a call: what it has laid is let go -/
theorem cut_ok (S : Sto X H al M) (s : Stp H al M H' al' M') (S' : Sto X H' al' M') (c : M'.take M.length = M ∨ (M'.take M.length).all (underO M.length) = true) :
    Stp H al M H' al (M'.take M.length) ∧ Sto X H' al (M'.take M.length) ∧ ∀ d v, underD M.length d = true → Rep X.K H' al' M' d v → Rep X.K H' al (M'.take M.length) d v := by
  obtain ⟨more, hm⟩ := id s.pre
  have hl : M.length ≤ M'.length := by rw [← S.len, ← S'.len, hm, List.length_append]; omega
  have get : ∀ {n : Nat} {a}, al.ad[n]? = some a → al'.ad[n]? = some a := fun h => s.get h
  have pre : ∀ (n : Nat) a, n < al.ad.length → al'.ad[n]? = some a → al.ad[n]? = some a := fun n a hn e => by
    rw [hm, List.getElem?_append_left hn] at e; exact e
  have Hn : ∀ a, Hot al (M'.take M.length) a → Hot al' M' a := fun a h => by
    rcases h with ⟨n, hn, e⟩ | h
    · exact .inl ⟨n, live_take hn, get e⟩
    · exact .inr (by rw [s.pv]; exact h)
  have lt : ∀ {n : Nat}, live (M'.take M.length) n → n < al.ad.length := fun h => by
    have := live_lt h
    rw [List.length_take] at this
    rw [S.len]; omega
  refine ⟨⟨⟨[], by simp⟩, rfl, s.pvk, s.keep, s.dom, fun n hn h => s.alive n hn (live_take h), fun n a hn e => by have := (List.getElem?_eq_some_iff.mp e).1; omega⟩, ⟨?_, fun n o a e ha => ?_, fun i j a hi hj ei ej => S'.inj i j a (ndl_take hi) (ndl_take hj) (get ei) (get ej), fun a ha => S'.pvl a (by rw [s.pv]; exact ha), fun i a hi e hp => S'.pvd i a (live_take hi) (get e) (by rw [s.pv]; exact hp), S'.tabs⟩, fun d v u r => Rep.cut Hn pre d v (by rw [S.len]; exact u) r⟩
  · rw [List.length_take, S.len]; omega
  · have e' : M'[n]? = some o := by
      by_cases hn : n < M.length
      · rw [List.getElem?_take_of_lt hn] at e; exact e
      · rw [List.getElem?_take_eq_none (Nat.le_of_not_lt hn)] at e; cases e
    refine (S'.at_ n o a e' (get ha)).cut Hn pre ?_
    rcases c with c | c
    · rw [c] at e
      exact (S.at_ n o a e ha).under
    · rw [S.len]
      exact List.all_eq_true.mp c o (List.mem_of_getElem? e)
end
end G

/-! GExp -/
set_option maxRecDepth 100000
set_option maxHeartbeats 4000000
namespace G
open PySem (Str)
open L2 (V HO Hp upd upd_same upd_ne SqL SqT Rd WX VK TE TT TA TO R2)

section
variable {α β γ δ : Type}
abbrev Rl (α β : Type) := Hp → Am → Store → α → β → Prop
/-- how an exception's fields lie -/
def Xfs (nm : Nat → Str) (K : PySem.W.Frag) (H : Hp) (al : Am) (M : Store) (fl : List Nat) (fs : List D) (vfs : List (Str × V)) : Prop := fs.length = fl.length ∧ Fsr nm K H al M (fl.zip fs) vfs
/-- the class objects of the exceptions -/
structure Gy extends Gx where
  ec : Nat → PySem.Addr
def Exr (X : Gy) (H : Hp) (al : Am) (M : Store) (c : Nat) (fs : List D) (cls : PySem.Value) (dd : Option PySem.Addr) : Prop :=
  ∃ e d vfs, X.P.ers[c]? = some e ∧ cls = .ref (X.ec c) ∧ dd = some d ∧ H d = some (.xd vfs) ∧ Xfs X.nm X.K H al M e.flds fs vfs
/-- what is wanted of a run's end -/
def Po (X : Gy) (R : Rl α β) (W : WX) (σ : L2.St) (H : Hp) (al : Am) (M : Store) (Q : β → Hp → Prop) (r : Res α) : Prop :=
  match r with
  | .ok a M' => ∀ al' H' v, Stp H al M H' al' M' → Sto X.toGx H' al' M' → R H' al' M' a v → Q v H'
  | .err c fs M' => ∀ al' H' cls dd, Stp H al M H' al' M' → Sto X.toGx H' al' M' → Exr X H' al' M' c fs cls dd → W cls dd σ H'
  | .stuck => False
def tG (X : Gy) (R : Rl α β) (W : WX) (f : Rho → Store → Res α) : L2.St → Hp → (β → Hp → Prop) → Prop := fun σ H Q =>
  ∃ al ρ M, Sto X.toGx H al M ∧ Envr X.K H al M σ ρ ∧ Po X R W σ H al M Q (f ρ M)
def rE (X : Gy) : Rl D V := fun H al M d v => Rep X.K H al M d v
def rA (X : Gy) : Rl (List D) (List V) := fun H al M d v => Reps X.K H al M d v
def rId : Rl α α := fun _ _ _ a b => a = b
abbrev tE (X : Gy) (W : WX) (f : Rho → Store → Res D) : TE := tG X (rE X) W f
abbrev tA (X : Gy) (W : WX) (f : Rho → Store → Res (List D)) : TA := tG X (rA X) W f
abbrev tT (X : Gy) (W : WX) (f : Rho → Store → Res Bool) : TT := tG X rId W f
abbrev tO (X : Gy) (W : WX) (f : Rho → Store → Res (Option Int)) : TO := tG X rId W f

variable {X : Gy} {R : Rl α β} {R2 : Rl γ δ} {W : WX} {σ : L2.St} {H H1 : Hp} {al al1 : Am} {M M1 : Store}
theorem Po.step {Q : β → Hp → Prop} {r : Res α} (h : Po X R W σ H al M Q r) (s : Stp H al M H1 al1 M1) : Po X R W σ H1 al1 M1 Q r := by
  cases r with
  | ok a M' => exact fun al' H' v s' S r => h al' H' v (s.trans s') S r
  | err c fs M' => exact fun al' H' cls dd s' S r => h al' H' cls dd (s.trans s') S r
  | stuck => exact h
theorem Po.mono {Q Q' : β → Hp → Prop} {r : Res α} (h : Po X R W σ H al M Q r) (hq : ∀ v H', Q v H' → Q' v H') : Po X R W σ H al M Q' r := by
  cases r with
  | ok a M' => exact fun al' H' v s' S r => hq _ _ (h al' H' v s' S r)
  | err c fs M' => exact h
  | stuck => exact h
theorem Po.ok {Q : β → Hp → Prop} {a : α} {v : β} (S : Sto X.toGx H al M) (h : Po X R W σ H al M Q (.ok a M)) (r : R H al M a v) : Q v H := h al H v Stp.refl S r
/-- what the second part asks, behind the first one -/
def Nxt (X : Gy) (R : Rl α β) (R2 : Rl γ δ) (W : WX) (σ : L2.St) (H : Hp) (al : Am) (M : Store) (Q : δ → Hp → Prop) (g : α → Store → Res γ) : β → Hp → Prop := fun x H1 =>
  ∃ al1 M1 a, Stp H al M H1 al1 M1 ∧ Sto X.toGx H1 al1 M1 ∧ R H1 al1 M1 a x ∧ Po X R2 W σ H1 al1 M1 Q (g a M1)
theorem Po.bind {Q : δ → Hp → Prop} {r : Res α} {g : α → Store → Res γ} (h : Po X R2 W σ H al M Q (r.bind g)) : Po X R W σ H al M (Nxt X R R2 W σ H al M Q g) r := by
  cases r with
  | ok a M' => exact fun al' H' v s S r => ⟨al', M', a, s, S, r, Po.step h s⟩
  | err c fs M' => exact h
  | stuck => exact h
/-- one operand -/
theorem tG_one {Q : δ → Hp → Prop} {f : Rho → Store → Res α} {g : α → Store → Res γ} (h : tG X R2 W (fun ρ M => (f ρ M).bind g) σ H Q) :
    tG X R W f σ H (fun x H1 => ∃ al M a, Sto X.toGx H1 al M ∧ R H1 al M a x ∧ Po X R2 W σ H1 al M Q (g a M)) := by
  obtain ⟨al, ρ, M, S, E, p⟩ := h
  refine ⟨al, ρ, M, S, E, p.bind.mono ?_⟩
  rintro v H' ⟨al1, M1, a, _, S1, r, p1⟩
  exact ⟨al1, M1, a, S1, r, p1⟩
end

section
variable {X : Gy} {W : WX} {σ : L2.St} {H : Hp} {al : Am} {M : Store}
/-- two operands -/
theorem tG_two {γ δ : Type} {R2 : Rl γ δ} {Q : δ → Hp → Prop} {f g : Rho → Store → Res D} {k : D → D → Store → Res γ} (h : tG X R2 W (fun ρ M => (f ρ M).bind fun x M1 => (g ρ M1).bind fun y M2 => k x y M2) σ H Q) :
    tE X W f σ H (fun x H1 => tE X W g σ H1 (fun y H2 => ∃ al M a b, Sto X.toGx H2 al M ∧ Rep X.K H2 al M a x ∧ Rep X.K H2 al M b y ∧ Po X R2 W σ H2 al M Q (k a b M))) := by
  obtain ⟨al, ρ, M, S, E, p⟩ := h
  refine ⟨al, ρ, M, S, E, p.bind.mono ?_⟩
  rintro v H1 ⟨al1, M1, a, s1, S1, r1, p1⟩
  refine ⟨al1, ρ, M1, S1, E.mono S s1, p1.bind.mono ?_⟩
  rintro y H2 ⟨al2, M2, b, s2, S2, r2, p2⟩
  exact ⟨al2, M2, a, b, S2, Rep.mono S1 s2 _ _ r1, r2, p2⟩
/-- one operand, then the same slots -/
theorem tG_then {α β γ δ : Type} {R : Rl α β} {R2 : Rl γ δ} {Q : δ → Hp → Prop} {f : Rho → Store → Res α} {g : Rho → α → Store → Res γ} (h : tG X R2 W (fun ρ M => (f ρ M).bind fun a M1 => g ρ a M1) σ H Q) :
    tG X R W f σ H (fun x H1 => ∃ al ρ M a, Sto X.toGx H1 al M ∧ Envr X.K H1 al M σ ρ ∧ R H1 al M a x ∧ Po X R2 W σ H1 al M Q (g ρ a M)) := by
  obtain ⟨al, ρ, M, S, E, p⟩ := h
  refine ⟨al, ρ, M, S, E, p.bind.mono ?_⟩
  rintro v H' ⟨al1, M1, a, s1, S1, r, p1⟩
  exact ⟨al1, ρ, M1, a, S1, E.mono S s1, r, p1⟩

/-- a new plain object -/
theorem Po.newT {Q : VK} {ds : List D} {vs : List V} {p : PySem.Addr} (S : Sto X.toGx H al M) (r : Reps X.K H al M ds vs) (hp : H p = none) (h : Po X (rE X) W σ H al M Q (.ok (.tup ds) M)) : Q (.ref p) (upd H p (.tup vs)) := by
  refine h al _ _ (Stp.cold S hp) (S.cold hp) ?_
  show Rep _ _ _ _ _ _
  rw [Rep]
  exact ⟨p, vs, rfl, upd_same, Reps.mono S (Stp.cold S hp) _ _ r⟩
theorem Po.newC {Q : VK} {ds : List D} {vs : List V} {p : PySem.Addr} (S : Sto X.toGx H al M) (r : Reps X.K H al M ds vs) (hp : H p = none) (h : Po X (rE X) W σ H al M Q (.ok (.lst ds) M)) : Q (.ref p) (upd H p (.lst vs)) := by
  refine h al _ _ (Stp.cold S hp) (S.cold hp) ?_
  show Rep _ _ _ _ _ _
  rw [Rep]
  exact ⟨p, vs, rfl, upd_same, S.fresh_nothot hp, Reps.mono S (Stp.cold S hp) _ _ r⟩
theorem Po.newH {Q : VK} {ds : List D} {vs : List V} {p : PySem.Addr} (S : Sto X.toGx H al M) (r : Reps X.K H al M ds vs) (hp : H p = none) (h : Po X (rE X) W σ H al M Q (.ok (.ptr M.length) (M ++ [.lst ds]))) : Q (.ref p) (upd H p (.lst vs)) := by
  have s : Stp H al M (upd H p (.lst vs)) (al.add p) (M ++ [.lst ds]) := Stp.alloc S hp
  refine h _ _ _ s (S.alloc hp ⟨vs, upd_same, Reps.mono S s _ _ r⟩) ?_
  show Rep _ _ _ _ _ _
  rw [Rep]
  exact ⟨p, rfl, by rw [← S.len]; simp [Am.add]⟩
theorem Po.newL {Q : VK} {hot : Bool} {ds : List D} {vs : List V} {p : PySem.Addr} (S : Sto X.toGx H al M) (r : Reps X.K H al M ds vs) (hp : H p = none) (h : Po X (rE X) W σ H al M Q (newL hot ds M)) : Q (.ref p) (upd H p (.lst vs)) := by
  cases hot with
  | true => exact Po.newH S r hp h
  | false => exact Po.newC S r hp h

/-- a list, plain or of the store, by its value -/
theorem listOf_at {d : D} {v : V} {ds : List D} (S : Sto X.toGx H al M) (r : Rep X.K H al M d v) (h : listOf M d = some ds) : ∃ a vs, v = .ref a ∧ H a = some (.lst vs) ∧ Reps X.K H al M ds vs := by
  cases d with
  | lst xs =>
    simp only [listOf, Option.some.injEq] at h
    subst h
    rw [Rep] at r
    obtain ⟨a, vs, e, h1, _, h3⟩ := r
    exact ⟨a, vs, e, h1, h3⟩
  | ptr n =>
    rw [Rep] at r
    obtain ⟨a, e, h1⟩ := r
    simp only [listOf] at h
    split at h
    · rename_i xs e2
      cases h
      obtain ⟨vs, h2, h3⟩ := S.at_ n _ a e2 h1
      exact ⟨a, vs, e, h2, h3⟩
    · cases h
  | _ => simp [listOf] at h
theorem seqOf_at {d : D} {v : V} {ds : List D} (S : Sto X.toGx H al M) (r : Rep X.K H al M d v) (h : seqOf M d = some ds) : ∃ a vs, v = .ref a ∧ (SqL X.K H a vs ∨ SqT X.K H a vs) ∧ Reps X.K H al M ds vs := by
  cases d with
  | lst xs =>
    obtain ⟨a, vs, e, h1, h2⟩ := listOf_at S r (ds := ds) (by simpa [seqOf, listOf] using h)
    exact ⟨a, vs, e, .inl (SqL.of h1), h2⟩
  | tup xs =>
    simp only [seqOf, Option.some.injEq] at h
    subst h
    rw [Rep] at r
    obtain ⟨a, vs, e, h1, h3⟩ := r
    exact ⟨a, vs, e, .inr (SqT.of h1), h3⟩
  | scr ns =>
    simp only [seqOf, Option.some.injEq] at h
    subst h
    rw [Rep] at r
    obtain ⟨a, e, h1⟩ := r
    exact ⟨a, _, e, .inl h1.sq, Reps.of_ints ns⟩
  | ptr n =>
    obtain ⟨a, vs, e, h1, h2⟩ := listOf_at S r (ds := ds) (by simpa [seqOf, listOf] using h)
    exact ⟨a, vs, e, .inl (SqL.of h1), h2⟩
  | _ => simp [seqOf] at h
theorem intsOf_eq : ∀ {ds : List D} {ns : List Int}, intsOf ds = some ns → ds = ns.map D.int
  | [], ns, h => by simp at h; rw [h]; rfl
  | .int i :: r, ns, h => by
    rw [intsOf_cons] at h
    cases q : intsOf r with
    | none => rw [q] at h; cases h
    | some ms =>
      rw [q] at h
      cases h
      rw [intsOf_eq q]; rfl
  | .non :: _, _, h => by simp [intsOf] at h
  | .bl _ :: _, _, h => by simp [intsOf] at h
  | .str _ :: _, _, h => by simp [intsOf] at h
  | .tup _ :: _, _, h => by simp [intsOf] at h
  | .lst _ :: _, _, h => by simp [intsOf] at h
  | .scr _ :: _, _, h => by simp [intsOf] at h
  | .ptr _ :: _, _, h => by simp [intsOf] at h
theorem boolsOf_eq : ∀ {ds : List D} {ns : List Bool}, boolsOf ds = some ns → ds = ns.map D.bl
  | [], ns, h => by simp [boolsOf] at h; rw [h]; rfl
  | .bl i :: r, ns, h => by
    rw [boolsOf] at h
    cases q : boolsOf r with
    | none => rw [q] at h; cases h
    | some ms =>
      rw [q] at h
      cases h
      rw [boolsOf_eq q]; rfl
  | .non :: _, _, h => by simp [boolsOf] at h
  | .int _ :: _, _, h => by simp [boolsOf] at h
  | .str _ :: _, _, h => by simp [boolsOf] at h
  | .tup _ :: _, _, h => by simp [boolsOf] at h
  | .lst _ :: _, _, h => by simp [boolsOf] at h
  | .scr _ :: _, _, h => by simp [boolsOf] at h
  | .ptr _ :: _, _, h => by simp [boolsOf] at h
theorem Reps.bools : ∀ {ns : List Bool} {vs : List V}, Reps X.K H al M (ns.map D.bl) vs → vs = ns.map V.bl
  | [], vs, h => by simpa [Reps] using h
  | n :: ns, vs, h => by
    rw [List.map_cons, Reps] at h
    obtain ⟨v, r, e, h1, h2⟩ := h
    rw [Rep] at h1
    rw [e, h1, Reps.bools h2, List.map_cons]

def astB : Bop → PySem.Operator
  | .add => .Add | .sub => .Sub | .mul => .Mult | .fdiv => .FloorDiv | .mod => .Mod | .pow => .Pow | .band => .BitAnd | .bor => .BitOr | .bxor => .BitXor | .shl => .LShift | .shr => .RShift
/-- what the layer's rules of an operator ask, all together -/
def rB (K : PySem.W.Frag) : Bop → R2
  | .add => fun x y H Q => L2.rI0 (fun i j => .int (i + j)) x y H Q ∨ (∃ i j, x = .str i ∧ y = .str j ∧ i.length + j.length ≤ PySem.sizeLine ∧ Q (.str (i ++ j)) H) ∨ L2.rCatA K x y H Q ∨ L2.rCat x y H Q
  | .sub => L2.rI0 fun i j => .int (i - j)
  | .mul => fun x y H Q => L2.rI L2.CMul (fun i j => .int (i * j)) x y H Q ∨ L2.rRep x y H Q
  | .fdiv => L2.rI L2.CDiv fun i j => .int (i / j)
  | .mod => L2.rI (fun _ j => 0 < j) fun i j => .int (i % j)
  | .pow => L2.rI L2.CPow fun i j => .int (i ^ j.toNat)
  | .shl => L2.rI L2.CPow fun i j => .int (i * 2 ^ j.toNat)
  | .shr => L2.rI (fun _ j => 0 ≤ j) fun i j => .int (i / 2 ^ j.toNat)
  | .band => L2.rI0 fun i j => .int (PySem.Builtin.bitAnd i j)
  | .bor => L2.rI0 fun i j => .int (PySem.Builtin.bitOr i j)
  | .bxor => L2.rI0 fun i j => .int (PySem.Builtin.bitXor i j)
theorem op_rB {cx : L2.Cx} : ∀ o : Bop, L2.OpR cx (PySem.binaryOp (astB o)) (rB cx.K o)
  | .add => L2.op_add.or (L2.op_add_str.or (L2.op_catA.or L2.op_cat))
  | .sub => L2.op_sub
  | .mul => L2.op_mul.or L2.op_rep
  | .fdiv => L2.op_fdiv
  | .mod => L2.op_mod
  | .pow => L2.op_pow
  | .shl => L2.op_shl
  | .shr => L2.op_shr
  | .band => L2.op_and
  | .bor => L2.op_or
  | .bxor => L2.op_xor
theorem rep_int {i : Int} {v : V} (r : Rep X.K H al M (.int i) v) : v = .int i := by rw [Rep] at r; exact r
theorem rep_str {i : Str} {v : V} (r : Rep X.K H al M (.str i) v) : v = .str i := by rw [Rep] at r; exact r
theorem rep_bl {i : Bool} {v : V} (r : Rep X.K H al M (.bl i) v) : v = .bl i := by rw [Rep] at r; exact r
theorem rep_non {v : V} (r : Rep X.K H al M .non v) : v = .non := by rw [Rep] at r; exact r
theorem int_rep {i : Int} : rE X H al M (.int i) (.int i) := by show Rep _ _ _ _ _ _; rw [Rep]
theorem str_rep {i : Str} : rE X H al M (.str i) (.str i) := by show Rep _ _ _ _ _ _; rw [Rep]
theorem bl_rep {i : Bool} : rE X H al M (.bl i) (.bl i) := by show Rep _ _ _ _ _ _; rw [Rep]
theorem non_rep : rE X H al M .non .non := by show Rep _ _ _ _ _ _; rw [Rep]
theorem tup_at {v : V} {ds : List D} (r : Rep X.K H al M (.tup ds) v) : ∃ a vs, v = .ref a ∧ H a = some (.tup vs) ∧ Reps X.K H al M ds vs := by rw [Rep] at r; exact r

theorem cat_sem {x y : D} {u v : V} {Q : VK} (S : Sto X.toGx H al M) (rx : Rep X.K H al M x u) (ry : Rep X.K H al M y v)
    (p : Po X (rE X) W σ H al M Q (match listOf M x, listOf M y with | some xs, some ys => if xs.length + ys.length ≤ big then .ok (.lst (xs ++ ys)) M else .stuck | _, _ => .stuck)) : L2.rCat u v H Q := by
  split at p
  · rename_i xs ys e1 e2
    split at p
    · rename_i hz
      obtain ⟨a, vs, rfl, h1, q1⟩ := listOf_at S rx e1
      obtain ⟨b, ws, rfl, h2, q2⟩ := listOf_at S ry e2
      exact ⟨a, b, vs, ws, rfl, rfl, h1, h2, by rw [q1.length, q2.length]; exact hz, fun pp hp => Po.newC S (q1.append q2) hp p⟩
    · exact p.elim
  · exact p.elim
theorem rep_sem {x : D} {k : Int} {u : V} {Q : VK} (S : Sto X.toGx H al M) (rx : Rep X.K H al M x u)
    (p : Po X (rE X) W σ H al M Q (match listOf M x with | some xs => if -16777216 ≤ k ∧ k ≤ 16777216 ∧ xs.length * k.toNat ≤ big then .ok (.lst (List.replicate k.toNat xs).flatten) M else .stuck | none => .stuck)) : L2.rRep u (.int k) H Q := by
  split at p
  · rename_i xs e1
    split at p
    · rename_i hz
      obtain ⟨a, vs, rfl, h1, q1⟩ := listOf_at S rx e1
      exact ⟨a, k, vs, rfl, rfl, h1, by omega, by omega, by rw [q1.length]; exact hz.2.2, fun pp hp => Po.newC S (Reps.flatten _ q1) hp p⟩
    · exact p.elim
  · exact p.elim
theorem bop_sem {o : Bop} {x y : D} {u v : V} {Q : VK} (S : Sto X.toGx H al M) (rx : Rep X.K H al M x u) (ry : Rep X.K H al M y v) (p : Po X (rE X) W σ H al M Q (binop o x y M)) : rB X.K o u v H Q := by
  unfold binop at p
  split at p
  · cases rep_int rx; cases rep_int ry; exact .inl ⟨_, _, rfl, rfl, p.ok S int_rep⟩
  · cases rep_int rx; cases rep_int ry; exact ⟨_, _, rfl, rfl, p.ok S int_rep⟩
  · split at p
    · cases rep_int rx; cases rep_int ry; exact .inl ⟨_, _, rfl, rfl, (by unfold L2.CMul; omega), p.ok S int_rep⟩
    · exact p.elim
  · split at p
    · cases rep_int rx; cases rep_int ry; exact ⟨_, _, rfl, rfl, ‹_›, p.ok S int_rep⟩
    · exact p.elim
  · split at p
    · cases rep_int rx; cases rep_int ry; exact ⟨_, _, rfl, rfl, ‹_›, p.ok S int_rep⟩
    · exact p.elim
  · split at p
    · cases rep_int rx; cases rep_int ry; exact ⟨_, _, rfl, rfl, (by unfold L2.CPow; omega), p.ok S int_rep⟩
    · exact p.elim
  · split at p
    · cases rep_int rx; cases rep_int ry; exact ⟨_, _, rfl, rfl, (by unfold L2.CPow; omega), p.ok S int_rep⟩
    · exact p.elim
  · split at p
    · cases rep_int rx; cases rep_int ry; exact ⟨_, _, rfl, rfl, ‹_›, p.ok S int_rep⟩
    · exact p.elim
  · cases rep_int rx; cases rep_int ry; exact ⟨_, _, rfl, rfl, p.ok S int_rep⟩
  · cases rep_int rx; cases rep_int ry; exact ⟨_, _, rfl, rfl, p.ok S int_rep⟩
  · cases rep_int rx; cases rep_int ry; exact ⟨_, _, rfl, rfl, p.ok S int_rep⟩
  · split at p
    · cases rep_str rx; cases rep_str ry; exact .inr (.inl ⟨_, _, rfl, rfl, ‹_›, p.ok S str_rep⟩)
    · exact p.elim
  · split at p
    · rename_i xs ys hz
      obtain ⟨a, vs, rfl, h1, q1⟩ := tup_at rx
      obtain ⟨b, ws, rfl, h2, q2⟩ := tup_at ry
      have l1 := q1.length
      have l2 := q2.length
      refine .inr (.inr (.inl ⟨a, b, vs, ws, rfl, rfl, SqT.of h1, SqT.of h2, by rw [l1, l2]; exact hz, fun e => ?_, fun e e' => ?_, fun e e' pp hp => Po.newT S (q1.append q2) hp p⟩))
      · subst e
        have : xs = [] := List.eq_nil_of_length_eq_zero (by simpa using l1.symm)
        subst this
        exact p.ok S ry
      · subst e'
        have : ys = [] := List.eq_nil_of_length_eq_zero (by simpa using l2.symm)
        subst this
        rw [List.append_nil] at p
        exact p.ok S rx
    · exact p.elim
  · exact .inr (.inr (.inr (cat_sem S rx ry p)))
  · cases rep_int ry; exact .inr (rep_sem S rx p)
  · exact p.elim
end
end G

/-! GDic -/
set_option maxRecDepth 100000
set_option maxHeartbeats 4000000
namespace G
open PySem PySem.Spec PyProof.Rows L2
theorem eqd_kD (a b : Key) : eqd (kD a) (kD b) = decide (a = b) := by
  rcases a with i | x <;> rcases b with j | y
  · show (i == j) = _
    by_cases h : i = j <;> simp [h]
  · show false = _
    simp
  · show false = _
    simp
  · show (x == y) = _
    by_cases h : x = y <;> simp [h]
theorem eqds_kD : ∀ (a b : List Key), eqds (a.map kD) (b.map kD) = decide (a = b)
  | [], [] => rfl
  | [], _ :: _ => rfl
  | _ :: _, [] => rfl
  | x :: a, y :: b => by
    rw [List.map_cons, List.map_cons, eqds, eqd_kD, eqds_kD a b]
    by_cases h : x = y <;> by_cases h2 : a = b <;> simp [h, h2]
theorem eqd_tD (a b : List Key) : eqd (tD a) (tD b) = decide (a = b) := by
  unfold tD; rw [eqd]; exact eqds_kD a b
theorem isKey1_ex {d : D} (h : isKey1 d = true) : ∃ k, d = kD k := by
  cases d with
  | int i => exact ⟨.inl i, rfl⟩
  | str x => exact ⟨.inr x, rfl⟩
  | _ => cases h
theorem isKey1s_ex : ∀ {ds : List D}, ds.all isKey1 = true → ∃ ks : List Key, ds = ks.map kD
  | [], _ => ⟨[], rfl⟩
  | d :: ds, h => by
    rw [List.all_cons, Bool.and_eq_true] at h
    obtain ⟨k, rfl⟩ := isKey1_ex h.1
    obtain ⟨ks, rfl⟩ := isKey1s_ex h.2
    exact ⟨k :: ks, rfl⟩
section
variable {κ : Type} [DecidableEq κ] {kf : κ → D} {K : PySem.W.Frag} {H : Hp} {al : Am} {M : Store}
theorem Dr.length : ∀ {ds : List (D × D)} {xs : List (κ × V)}, Dr kf K H al M ds xs → xs.length = ds.length
  | [], xs, h => by rw [Dr] at h; subst h; rfl
  | p :: ds, xs, h => by
    obtain ⟨k, v, r, rfl, _, _, h2⟩ := h
    rw [List.length_cons, List.length_cons, Dr.length h2]
theorem Dr.val (hk : ∀ a b, eqd (kf a) (kf b) = decide (a = b)) (k : κ) : ∀ {ds : List (D × D)} {xs : List (κ × V)}, Dr kf K H al M ds xs → (∀ d, dget ds (kf k) = some d → ∃ v, valV xs k = some v ∧ Rep K H al M d v) ∧ (dget ds (kf k) = none → valV xs k = none)
  | [], xs, h => by rw [Dr] at h; subst h; exact ⟨fun d e => by simp [dget] at e, fun _ => rfl⟩
  | p :: ds, xs, h => by
    obtain ⟨k', v, r, rfl, e1, rv, h2⟩ := h
    have ih := Dr.val hk k h2
    have e : dget (p :: ds) (kf k) = if k' = k then some p.2 else dget ds (kf k) := by
      unfold dget
      rw [List.find?_cons, e1, hk]
      by_cases q : k' = k <;> simp [q]
    rw [e]
    by_cases q : k' = k
    · rw [if_pos q, valV_pos (show ((k', v) : κ × V).1 = k from q)]
      exact ⟨fun d e => by cases e; exact ⟨v, rfl, rv⟩, fun e => by cases e⟩
    · rw [if_neg q, valV_neg (show ¬ ((k', v) : κ × V).1 = k from q)]
      exact ih
theorem Dr.any (hk : ∀ a b, eqd (kf a) (kf b) = decide (a = b)) (k : κ) : ∀ {ds : List (D × D)} {xs : List (κ × V)}, Dr kf K H al M ds xs → (ds.any fun p => eqd p.1 (kf k)) = xs.any fun kv => decide (kv.1 = k)
  | [], xs, h => by rw [Dr] at h; subst h; rfl
  | p :: ds, xs, h => by
    obtain ⟨k', v, r, rfl, e1, rv, h2⟩ := h
    rw [List.any_cons, List.any_cons, Dr.any hk k h2, e1, hk]
theorem Dr.repl (hk : ∀ a b, eqd (kf a) (kf b) = decide (a = b)) (k : κ) {d : D} {v : V} (rv : Rep K H al M d v) : ∀ {ds : List (D × D)} {xs : List (κ × V)}, Dr kf K H al M ds xs →
    Dr kf K H al M (ds.map fun p => if eqd p.1 (kf k) then (p.1, d) else p) (xs.map fun kv => if kv.1 = k then (kv.1, v) else kv)
  | [], xs, h => by rw [Dr] at h; subst h; rfl
  | p :: ds, xs, h => by
    obtain ⟨k', w, r, rfl, e1, rw', h2⟩ := h
    rw [List.map_cons, List.map_cons, e1, hk]
    by_cases q : k' = k
    · simp only [q, decide_true, if_true]
      exact ⟨k, v, _, rfl, rfl, rv, Dr.repl hk k rv h2⟩
    · simp only [q, decide_false, Bool.false_eq_true, if_false]
      exact ⟨k', w, _, rfl, e1, rw', Dr.repl hk k rv h2⟩
theorem Dr.app : ∀ {ds es : List (D × D)} {xs ys : List (κ × V)}, Dr kf K H al M ds xs → Dr kf K H al M es ys → Dr kf K H al M (ds ++ es) (xs ++ ys)
  | [], es, xs, ys, h, t => by rw [Dr] at h; subst h; exact t
  | p :: ds, es, xs, ys, h, t => by
    obtain ⟨k', w, r, rfl, e1, rw', h2⟩ := h
    exact ⟨k', w, _, rfl, e1, rw', Dr.app h2 t⟩
theorem Dr.put (hk : ∀ a b, eqd (kf a) (kf b) = decide (a = b)) (k : κ) {d : D} {v : V} (rv : Rep K H al M d v) {ds : List (D × D)} {xs : List (κ × V)} (h : Dr kf K H al M ds xs) : Dr kf K H al M (dput ds (kf k) d) (putK xs k v) := by
  unfold dput putK
  rw [h.any hk k]
  split
  · exact h.repl hk k rv
  · exact h.app ⟨k, v, [], rfl, rfl, rv, rfl⟩
end
section
variable {X : Gy} {W : WX} {σ : L2.St} {H : Hp} {al : Am} {M : Store}
theorem kV_rep {k : Key} {v : V} (r : Rep X.K H al M (kD k) v) : v = kV k := by
  rcases k with i | x
  · exact rep_int r
  · exact rep_str r
theorem kVs_rep : ∀ {ks : List Key} {vs : List V}, Reps X.K H al M (ks.map kD) vs → vs = ks.map kV
  | [], vs, r => by rw [List.map_nil, Reps] at r; exact r
  | k :: ks, vs, r => by
    rw [List.map_cons, Reps] at r
    obtain ⟨v, r', e, h1, h2⟩ := r
    rw [e, kV_rep h1, kVs_rep h2]; rfl
/-- a dict of the store, by its value: known, perhaps walked by a loop -/
theorem dic_at {x : D} {u : V} {kv : Bool × List (D × D)} (S : Sto X.toGx H al M) (rx : Rep X.K H al M x u) (e : dicOf M x = some kv) : ∃ a w, u = .ref a ∧ Rd H a w ∧ Dcr kv.1 X.K H al M kv.2 w := by
  cases x with
  | ptr n =>
    rw [Rep] at rx
    obtain ⟨a, rfl, ha⟩ := rx
    simp only [dicOf] at e
    split at e
    · rename_i tk kvs e1
      cases e
      obtain ⟨w, h1, h2⟩ := S.at_ n _ a e1 ha
      exact ⟨a, w, rfl, .inl h1, h2⟩
    · rename_i tk kvs e1
      cases e
      obtain ⟨o, w, h1, h2⟩ := S.at_ n _ a e1 ha
      exact ⟨a, w, rfl, .inr ⟨o, h1⟩, h2⟩
    · cases e
  | _ => simp [dicOf] at e
theorem dget_at {x y : D} {u v : V} {kv : Bool × List (D × D)} (S : Sto X.toGx H al M) (rx : Rep X.K H al M x u) (ry : Rep X.K H al M y v) (e : dicOf M x = some kv) (hk : isKey kv.1 y = true) :
    ∃ a o, u = .ref a ∧ DGet H a v o ∧ (∀ d, dget kv.2 y = some d → ∃ w, o = some w ∧ Rep X.K H al M d w) ∧ (dget kv.2 y = none → o = none) := by
  obtain ⟨a, w, rfl, hr, hc⟩ := dic_at S rx e
  obtain ⟨tk, kvs⟩ := kv
  cases tk with
  | false =>
    obtain ⟨xs, rfl, r⟩ := hc
    obtain ⟨k, rfl⟩ := isKey1_ex hk
    obtain rfl := kV_rep ry
    obtain ⟨h1, h2⟩ := r.val eqd_kD k
    exact ⟨a, _, rfl, .inl ⟨xs, k, hr, rfl, rfl⟩, h1, h2⟩
  | true =>
    obtain ⟨xs, rfl, r⟩ := hc
    cases y with
    | tup ds =>
      obtain ⟨ks, rfl⟩ := isKey1s_ex hk
      obtain ⟨b, vs, rfl, hb, rs⟩ := tup_at ry
      obtain rfl := kVs_rep rs
      obtain ⟨h1, h2⟩ := r.val eqd_tD ks
      exact ⟨a, _, rfl, .inr ⟨xs, ks, b, hr, rfl, hb, rfl⟩, h1, h2⟩
    | _ => cases hk
end
/-- o[i] of a dict, as a rule of subscripts -/
def rIxD : R2 := fun x y H Q => ∃ a v, x = .ref a ∧ DGet H a y (some v) ∧ Q v H
theorem ix_dict {X : Cx} (hu : X.A.units + 1 < cLine) : IxR X rIxD := by
  intro value slice pins s σ H x y v u Q I rx ry h hs
  obtain ⟨a, w, rfl, g, q⟩ := h
  cases rx
  unfold subscriptTail
  refine wpAny_bind ?_
  rw [getitemInPython_of_ne (dict_typeIs I g).not_modules]
  refine wpAny_bind (wpAny_specialOf (dict_typeIs I g) PySem.F.slot_dict_getitem.lookup ?_)
  have fin : wpAny (model X.prog X.w) X.A (subscripted slice false (.ref a) u) (fun r s₃ => wpAny (model X.prog X.w) X.A (letTemporaryGo value (.ref a) r >>= fun _ => pure r) (EP X pins σ Q) X.xe s₃) X.xe s := by
    rw [hs]
    exact wpAny_operating (d_getItem hu I g ry fun w' s3 I3 rw' => wpAny_bind (wpAny_letTemporaryGo (wpAny_pure ⟨w, H, I3, rw', q⟩)))
  first
    | exact wpAny_pure (wpAny_bind fin)
    | exact wpAny_bind (wpAny_pure (wpAny_bind fin))
    | exact wpAny_bind fin
/-- y in d, y not in d -/
def rInD (neg : Bool) : R2 := fun y x H Q => ∃ a o, x = .ref a ∧ DGet H a y o ∧ Q (.bl (if neg = true then !o.isSome else o.isSome)) H
theorem op_in_dict {X : Cx} (hu : X.A.units + 1 < cLine) : OpR X (compareOp .In) (rInD false) := by
  intro pins s σ H x y v u Q I rx ry h
  obtain ⟨a, o, rfl, g, q⟩ := h
  cases ry
  exact d_in hu I g rx fun s' I' => ⟨.bl _, H, I', rfl, q⟩
theorem op_notIn_dict {X : Cx} (hu : X.A.units + 1 < cLine) : OpR X (compareOp .NotIn) (rInD true) := by
  intro pins s σ H x y v u Q I rx ry h
  obtain ⟨a, o, rfl, g, q⟩ := h
  cases ry
  exact d_notIn hu I g rx fun s' I' => ⟨.bl _, H, I', rfl, q⟩
section
variable {X : Gy} {W : WX} {σ : L2.St} {H : Hp} {al : Am} {M : Store}
theorem dicN_at {x : D} {u : V} {kv : Bool × List (D × D)} (S : Sto X.toGx H al M) (rx : Rep X.K H al M x u) (e : dicN M x = some kv) : ∃ a w, u = .ref a ∧ H a = some w ∧ Dcr kv.1 X.K H al M kv.2 w := by
  cases x with
  | ptr n =>
    rw [Rep] at rx
    obtain ⟨a, rfl, ha⟩ := rx
    simp only [dicN] at e
    split at e
    · rename_i tk kvs e1
      cases e
      obtain ⟨w, h1, h2⟩ := S.at_ n _ a e1 ha
      exact ⟨a, w, rfl, h1, h2⟩
    · cases e
  | _ => simp [dicN] at e
theorem kD_reps {kvs : List (D × D)} {xs : List (Key × V)} (h : Dr kD X.K H al M kvs xs) : Reps X.K H al M (kvs.map (·.1)) (xs.map fun kv => kV kv.1) := by
  induction kvs generalizing xs with
  | nil => rw [Dr] at h; subst h; exact Reps.nil
  | cons p kvs ih =>
    obtain ⟨k, v, r, rfl, e, _, h2⟩ := h
    rw [List.map_cons, List.map_cons, e]
    refine .cons ?_ (ih h2)
    rcases k with i | x
    · exact int_rep (X := X)
    · exact str_rep (X := X)
theorem kDs_reps : ∀ (ks : List Key), Reps X.K H al M (ks.map kD) (ks.map kV)
  | [] => Reps.nil
  | k :: ks => by
    rw [List.map_cons, List.map_cons]
    refine .cons ?_ (kDs_reps ks)
    rcases k with i | x
    · exact int_rep (X := X)
    · exact str_rep (X := X)
theorem tD_reps {kvs : List (D × D)} {xs : List (List Key × V)} {bs : List Addr} (h : Dr tD X.K H al M kvs xs) (hb : IsKeys H xs bs) : Reps X.K H al M (kvs.map (·.1)) (bs.map V.ref) := by
  induction kvs generalizing xs bs with
  | nil =>
    rw [Dr] at h; subst h
    cases hb
    exact Reps.nil
  | cons p kvs ih =>
    obtain ⟨k, v, r, rfl, e, _, h2⟩ := h
    cases hb with
    | cons hb1 hb2 =>
      rw [List.map_cons, List.map_cons, e]
      refine .cons ?_ (ih h2 hb2)
      unfold tD
      rw [Rep]
      exact ⟨_, _, rfl, hb1, kDs_reps k⟩
end
def rLenD : List V → Hp → VK → Prop := fun xs H Q => (∃ a kvs, xs = [V.ref a] ∧ H a = some (.dK kvs) ∧ Q (.int ((kvs.length : Nat) : Int)) H) ∨ rLenT xs H Q
def rListB : List V → Hp → VK → Prop := fun xs H Q => rListD xs H Q ∨ ∃ d kvs, xs = [V.ref d] ∧ Rd H d (.dT kvs) ∧ ∀ p bs, H p = none → IsKeys H kvs bs → Q (.ref p) (upd H p (.lst (bs.map V.ref)))
theorem call_lenB {X : Cx} : CallR X (.builtin "len") rLenD := by
  intro pins s σ H xs us Q I r h
  rcases h with ⟨a, kvs, rfl, e, q⟩ | h
  · exact call_lenD pins s σ H _ us Q I r ⟨a, kvs, rfl, e, q⟩
  · exact call_len_dT pins s σ H _ us Q I r h
theorem call_listB {X : Cx} (hc : X.calm = true) : CallR X (.type "list") rListB := by
  intro pins s σ H xs us Q I r h
  rcases h with h | h
  · exact call_list_dK hc pins s σ H _ us Q I r h
  · exact call_list_dT hc pins s σ H _ us Q I r h
theorem pairsOf_eq : ∀ {ds : List D} {ps : List (Int × Int)}, pairsOf ds = some ps → ds = ps.map pairD
  | [], ps, h => by simp [pairsOf] at h; rw [h]; rfl
  | d :: r, ps, h => by
    unfold pairsOf at h
    split at h
    · rename_i heq; cases heq
    · rename_i i j r' heq
      cases heq
      cases q : pairsOf r with
      | none => rw [q] at h; cases h
      | some ms =>
        rw [q] at h
        cases h
        rw [pairsOf_eq q]; rfl
    · cases h
def leP (a b : Int × Int) : Bool := decide (a.1 < b.1) || (decide (a.1 = b.1) && decide (a.2 ≤ b.2))
theorem sortP_perm (ps : List (Int × Int)) : (sortP ps).Perm ps := List.mergeSort_perm _ _
theorem leP_iff {a b : Int × Int} : leP a b = true ↔ a.1 < b.1 ∨ (a.1 = b.1 ∧ a.2 ≤ b.2) := by
  unfold leP; simp
theorem sortP_sorted (ps : List (Int × Int)) : (sortP ps).Pairwise fun a b => leP a b = true := by
  have := List.pairwise_mergeSort (le := leP) (fun a b c h1 h2 => by rw [leP_iff] at *; omega) (fun a b => by
    have h1 : leP a b = true ∨ leP b a = true := by rw [leP_iff, leP_iff]; omega
    rcases h1 with h | h <;> rw [h] <;> simp) ps
  exact this
theorem sortP_uniq {ps ps' : List (Int × Int)} (h : ps'.Perm ps) (hs : ps'.Pairwise fun a b => leP a b = true) : ps' = sortP ps :=
  (h.trans (sortP_perm ps).symm).eq_of_pairwise (fun a b _ _ h1 h2 => by
    rw [leP_iff] at h1 h2
    ext
    · omega
    · omega) hs (sortP_sorted ps)
section
variable {X : Gy} {W : WX} {σ : L2.St} {H : Hp} {al : Am} {M : Store}
theorem sortP_sem {hot : Bool} {ps : List (Int × Int)} {a : Addr} {vs : List V} {Q : VK} (S : Sto X.toGx H al M) (h1 : H a = some (.lst vs)) (h2 : Reps X.K H al M (ps.map pairD) vs) (p : Po X (G.rE X) W σ H al M Q (newL hot ((sortP ps).map pairD) M)) : rSortedPO X.K [.ref a] H Q := by
  -- each item by its place
  have each : ∀ (ps : List (Int × Int)) (vs : List V), Reps X.K H al M (ps.map pairD) vs → ∀ v ∈ vs, ∃ (t : Addr) (q : Int × Int), v = V.ref t ∧ H t = some (.tup [.int q.1, .int q.2]) ∧ q ∈ ps := by
    intro ps
    induction ps with
    | nil => intro vs h v hv; rw [List.map_nil, Reps] at h; subst h; cases hv
    | cons q ps ih =>
      intro vs h v hv
      rw [List.map_cons, Reps] at h
      obtain ⟨w, r, rfl, rw', h3⟩ := h
      rcases List.mem_cons.mp hv with rfl | hv
      · obtain ⟨b, ws, rfl, hb, rs⟩ := tup_at rw'
        have := Reps.ints (ns := [q.1, q.2]) rs
        subst this
        exact ⟨b, q, rfl, hb, List.mem_cons_self⟩
      · obtain ⟨t, q', e1, e2, e3⟩ := ih r h3 v hv
        exact ⟨t, q', e1, e2, List.mem_cons_of_mem _ e3⟩
  let k : V → Int × Int := fun v => match v with
    | .ref t => match H t with
      | some (.tup [.int i, .int j]) => (i, j)
      | _ => (0, 0)
    | _ => (0, 0)
  have hkv : ∀ t (q : Int × Int), H t = some (.tup [.int q.1, .int q.2]) → k (.ref t) = q := fun t q e => by simp only [k, e]
  have hkm : ∀ (ps : List (Int × Int)) (vs : List V), Reps X.K H al M (ps.map pairD) vs → vs.map k = ps := by
    intro ps
    induction ps with
    | nil => intro vs h; rw [List.map_nil, Reps] at h; subst h; rfl
    | cons q ps ih =>
      intro vs h
      rw [List.map_cons, Reps] at h
      obtain ⟨w, r, rfl, rw', h3⟩ := h
      obtain ⟨b, ws, rfl, hb, rs⟩ := tup_at rw'
      have := Reps.ints (ns := [q.1, q.2]) rs
      subst this
      rw [List.map_cons, ih r h3, hkv b q hb]
  refine ⟨a, vs, k, rfl, SqL.of h1, fun v hv => ?_, fun ys pp hs hb hn => ?_⟩
  · obtain ⟨t, q, rfl, e2, _⟩ := each ps vs h2 v hv
    exact ⟨t, rfl, by rw [hkv t q e2]; exact e2⟩
  · have hy : ys.map k = sortP ps := by
      refine sortP_uniq ?_ ?_
      · rw [← hkm ps vs h2]; exact hb.perm.map k
      · rw [List.pairwise_map]
        refine hs.imp fun {x y} h => ?_
        have h' : SrtO.lexB (k y) (k x) = false := h
        rw [SrtO.lexB_no] at h'
        rw [leP_iff]; omega
    have hr : ∀ (ys : List V), (∀ y ∈ ys, ∃ (t : Addr) (q : Int × Int), y = V.ref t ∧ H t = some (.tup [.int q.1, .int q.2])) → Reps X.K H al M ((ys.map k).map pairD) ys := by
      intro ys
      induction ys with
      | nil => intro _; exact Reps.nil
      | cons y ys ih =>
        intro h
        obtain ⟨t, q, rfl, e⟩ := h y List.mem_cons_self
        rw [List.map_cons, List.map_cons, hkv t q e]
        refine .cons ?_ (ih fun z hz => h z (List.mem_cons_of_mem _ hz))
        unfold pairD
        rw [Rep]
        exact ⟨t, _, rfl, e, Reps.of_ints [q.1, q.2]⟩
    have hall := hr ys fun y hy' => by
      obtain ⟨t, q, e1, e2, _⟩ := each ps vs h2 y (hb.perm.mem_iff.mp hy')
      exact ⟨t, q, e1, e2⟩
    rw [hy] at hall
    exact Po.newL S hall hn p
end
end G

/-! GCmp -/
set_option maxRecDepth 100000
set_option maxHeartbeats 4000000
namespace G
open PySem (Str PyData)
open L2 (V HO Hp upd upd_same upd_ne SqL SqT Rd WX VK TE TT TA TO R2)

mutual
def toPy : D → PyData
  | .non => .none
  | .bl b => .bool b
  | .int i => .int i
  | .str x => .str x
  | .tup xs => .tuple (toPys xs)
  | .lst xs => .list (toPys xs)
  | .scr _ => .none
  | .ptr _ => .none
def toPys : List D → List PyData
  | [] => []
  | x :: xs => toPy x :: toPys xs
end
section
variable {X : Gy} {W : WX} {σ : L2.St} {H : Hp} {al : Am} {M : Store}
theorem okd_dp : ∀ (k : Nat) (d : D) (v : V), okd k d = true → Rep X.K H al M d v → L2.Dp X.K H v (toPy d) := by
  intro k
  induction k with
  | zero =>
    intro d v h r
    cases d with
    | non => cases rep_non r; rw [toPy]; exact .non
    | bl b => cases rep_bl r; rw [toPy]; exact .bl b
    | int i => cases rep_int r; rw [toPy]; exact .int i
    | str x => cases rep_str r; rw [toPy]; exact .str x
    | _ => simp [okd] at h
  | succ k ih =>
    have all : ∀ (xs : List D) (vs : List V), xs.all (okd k) = true → Reps X.K H al M xs vs → L2.DpAll X.K H vs (toPys xs) := by
      intro xs
      induction xs with
      | nil => intro vs _ r; rw [Reps] at r; subst r; rw [toPys]; exact .nil
      | cons x xs ihx =>
        intro vs h r
        rw [List.all_cons, Bool.and_eq_true] at h
        rw [Reps] at r
        obtain ⟨v, r', e, h1, h2⟩ := r
        subst e
        rw [toPys]
        exact .cons (ih x v h.1 h1) (ihx r' h.2 h2)
    intro d v h r
    cases d with
    | non => cases rep_non r; rw [toPy]; exact .non
    | bl b => cases rep_bl r; rw [toPy]; exact .bl b
    | int i => cases rep_int r; rw [toPy]; exact .int i
    | str x => cases rep_str r; rw [toPy]; exact .str x
    | tup xs =>
      obtain ⟨a, vs, rfl, h1, h2⟩ := tup_at r
      rw [toPy]
      exact .tup (SqT.of h1) (all xs vs (by simpa [okd] using h) h2)
    | lst xs =>
      rw [Rep] at r
      obtain ⟨a, vs, rfl, h1, _, h2⟩ := r
      rw [toPy]
      exact .lst (SqL.of h1) (all xs vs (by simpa [okd] using h) h2)
    | _ => simp [okd] at h
theorem okd_shape : ∀ (k : Nat) (d : D), okd k d = true → (toPy d).canLay0 = true ∧ (toPy d).depth ≤ k := by
  intro k
  induction k with
  | zero =>
    intro d h
    cases d with
    | non => simp [toPy, PyData.canLay0, PyData.depth]
    | bl b => simp [toPy, PyData.canLay0, PyData.depth]
    | int i => simp [toPy, PyData.canLay0, PyData.depth]
    | str x => simp [okd] at h; simp [toPy, PyData.canLay0, PyData.depth, h]
    | _ => simp [okd] at h
  | succ k ih =>
    have all : ∀ (xs : List D), xs.all (okd k) = true → PyData.canLayAll0 (toPys xs) = true ∧ PyData.depthAll (toPys xs) ≤ k := by
      intro xs
      induction xs with
      | nil => intro _; simp [toPys, PyData.canLayAll0, PyData.depthAll]
      | cons x xs ihx =>
        intro h
        rw [List.all_cons, Bool.and_eq_true] at h
        have h1 := ih x h.1
        have h2 := ihx h.2
        rw [toPys, PyData.canLayAll0, PyData.depthAll, h1.1, h2.1]
        exact ⟨rfl, Nat.max_le.mpr ⟨h1.2, h2.2⟩⟩
    intro d h
    cases d with
    | non => simp [toPy, PyData.canLay0, PyData.depth]
    | bl b => simp [toPy, PyData.canLay0, PyData.depth]
    | int i => simp [toPy, PyData.canLay0, PyData.depth]
    | str x => simp [okd] at h; simp [toPy, PyData.canLay0, PyData.depth, h]
    | tup xs =>
      have h2 := all xs (by simpa [okd] using h)
      rw [toPy, PyData.canLay0, PyData.depth]
      exact ⟨h2.1, Nat.succ_le_succ h2.2⟩
    | lst xs =>
      have h2 := all xs (by simpa [okd] using h)
      rw [toPy, PyData.canLay0, PyData.depth]
      exact ⟨h2.1, Nat.succ_le_succ h2.2⟩
    | _ => simp [okd] at h
theorem shaped_of {d : D} (h : okd 12 d = true) : PySem.SeqAt.shaped (toPy d) = true := by
  obtain ⟨h1, h2⟩ := okd_shape 12 d h
  unfold PySem.SeqAt.shaped
  rw [h1, Bool.true_and, decide_eq_true_eq]
  omega
theorem eqd_eqv : ∀ (k : Nat) (d e : D), okd k d = true → okd k e = true → PyData.eqv (toPy d) (toPy e) = eqd d e := by
  intro k
  induction k with
  | zero =>
    intro d e h h'
    cases d <;> cases e <;> first
      | (simp [okd] at h; done)
      | (simp [okd] at h'; done)
      | simp [toPy, PyData.eqv, eqd]
  | succ k ih =>
    have all : ∀ (xs ys : List D), xs.all (okd k) = true → ys.all (okd k) = true → PyData.eqvAll (toPys xs) (toPys ys) = eqds xs ys := by
      intro xs
      induction xs with
      | nil => intro ys _ _; cases ys <;> simp [toPys, PyData.eqvAll, eqds]
      | cons x xs ihx =>
        intro ys h h'
        cases ys with
        | nil => simp [toPys, PyData.eqvAll, eqds]
        | cons y ys =>
          rw [List.all_cons, Bool.and_eq_true] at h h'
          rw [toPys, toPys, PyData.eqvAll, eqds, ih x y h.1 h'.1, ihx ys h.2 h'.2]
    intro d e h h'
    cases d <;> cases e <;> first
      | (simp [okd] at h; done)
      | (simp [okd] at h'; done)
      | (simp [toPy, PyData.eqv, eqd]; done)
      | (rw [toPy, toPy, PyData.eqv, eqd]; exact all _ _ (by simpa [okd] using h) (by simpa [okd] using h'))
theorem top_dp {d : D} {v : V} (S : Sto X.toGx H al M) (r : Rep X.K H al M d v) (h : okd 12 (top M d) = true) : L2.Dp X.K H v (toPy (top M d)) := by
  cases d with
  | ptr n =>
    rw [Rep] at r
    obtain ⟨a, rfl, h1⟩ := r
    simp only [top] at h ⊢
    split at h
    · rename_i xs e
      obtain ⟨vs, h2, h3⟩ := S.at_ n _ a e h1
      -- its items are plain
      rw [toPy]
      refine .lst (SqL.of h2) ?_
      have all : ∀ (xs : List D) (vs : List V), xs.all (okd 11) = true → Reps X.K H al M xs vs → L2.DpAll X.K H vs (toPys xs) := by
        intro xs
        induction xs with
        | nil => intro vs _ r; rw [Reps] at r; subst r; rw [toPys]; exact .nil
        | cons x xs ihx =>
          intro vs h r
          rw [List.all_cons, Bool.and_eq_true] at h
          rw [Reps] at r
          obtain ⟨v, r', e, h1, h2⟩ := r
          subst e
          rw [toPys]
          exact .cons (okd_dp 11 x v h.1 h1) (ihx r' h.2 h2)
      exact all xs vs (by simpa [okd] using h) h3
    · simp [okd] at h
  | _ => exact okd_dp 12 _ v h r
theorem flat_rep {d : D} {v : V} (r : Rep X.K H al M d v) (h : flatd d = true) : L2.flatV v = true := by
  cases d with
  | non => cases rep_non r; rfl
  | bl b => cases rep_bl r; rfl
  | int i => cases rep_int r; rfl
  | str x => cases rep_str r; rfl
  | _ => simp [flatd] at h
theorem flats_rep : ∀ {ds : List D} {vs : List V}, Reps X.K H al M ds vs → ds.all flatd = true → vs.all L2.flatV = true
  | [], vs, r, _ => by rw [Reps] at r; subst r; rfl
  | d :: ds, vs, r, h => by
    rw [List.all_cons, Bool.and_eq_true] at h
    rw [Reps] at r
    obtain ⟨v, r', e, h1, h2⟩ := r
    subst e
    rw [List.all_cons, flat_rep h1 h.1, flats_rep h2 h.2]; rfl
theorem flateq_rep {d e : D} {v u : V} (r : Rep X.K H al M d v) (r' : Rep X.K H al M e u) (h : flatd d = true) (h' : flatd e = true) : L2.eqV v u = flateq d e := by
  cases d <;> first
    | (simp [flatd] at h; done)
    | (cases e <;> first
      | (simp [flatd] at h'; done)
      | (rw [Rep] at r; rw [Rep] at r'; subst r r'; rfl))
theorem inV_rep {x : D} {u : V} (rx : Rep X.K H al M x u) (hx : flatd x = true) : ∀ {ds : List D} {vs : List V}, Reps X.K H al M ds vs → ds.all flatd = true → L2.inV u vs = ds.any fun y => flateq y x
  | [], vs, r, _ => by rw [Reps] at r; subst r; rfl
  | d :: ds, vs, r, h => by
    rw [List.all_cons, Bool.and_eq_true] at h
    rw [Reps] at r
    obtain ⟨v, r', e, h1, h2⟩ := r
    subst e
    have ih := inV_rep rx hx h2 h.2
    unfold L2.inV at ih ⊢
    rw [List.any_cons, List.any_cons, flateq_rep h1 rx h.1 hx, ih]

def astC : Cop → PySem.CmpOp
  | .lt => .Lt | .le => .LtE | .gt => .Gt | .ge => .GtE | .eq => .Eq | .ne => .NotEq | .inn => .In | .nin => .NotIn
def rC (K : PySem.W.Frag) : Cop → R2
  | .lt => L2.rI0 fun i j => .bl (decide (i < j))
  | .le => L2.rI0 fun i j => .bl (decide (i ≤ j))
  | .gt => L2.rI0 fun i j => .bl (decide (j < i))
  | .ge => L2.rI0 fun i j => .bl (decide (j ≤ i))
  | .eq => L2.rEqD K
  | .ne => L2.rNeD K
  | .inn => fun x y H Q => L2.rIn K false x y H Q ∨ rInD false x y H Q
  | .nin => fun x y H Q => L2.rIn K true x y H Q ∨ rInD true x y H Q
theorem op_rC {cx : L2.Cx} (hu : cx.A.units + 64 < PySem.cLine) : ∀ o : Cop, L2.OpR cx (PySem.compareOp (astC o)) (rC cx.K o)
  | .lt => L2.op_lt
  | .le => L2.op_le
  | .gt => L2.op_gt
  | .ge => L2.op_ge
  | .eq => L2.op_eqD hu
  | .ne => L2.op_neD hu
  | .inn => L2.op_in_seq.or (op_in_dict (by omega))
  | .nin => L2.op_notIn_seq.or (op_notIn_dict (by omega))
theorem cop_sem {o : Cop} {x y : D} {u v : V} {Q : VK} (S : Sto X.toGx H al M) (rx : Rep X.K H al M x u) (ry : Rep X.K H al M y v) (p : Po X (rE X) W σ H al M Q (cmpop o x y M)) : rC X.K o u v H Q := by
  unfold cmpop at p
  split at p
  · cases rep_int rx; cases rep_int ry; exact ⟨_, _, rfl, rfl, p.ok S bl_rep⟩
  · cases rep_int rx; cases rep_int ry; exact ⟨_, _, rfl, rfl, p.ok S bl_rep⟩
  · cases rep_int rx; cases rep_int ry; exact ⟨_, _, rfl, rfl, p.ok S bl_rep⟩
  · cases rep_int rx; cases rep_int ry; exact ⟨_, _, rfl, rfl, p.ok S bl_rep⟩
  · split at p
    · rename_i h
      refine ⟨_, _, top_dp S rx h.1, top_dp S ry h.2, shaped_of h.1, shaped_of h.2, ?_⟩
      rw [eqd_eqv 12 _ _ h.1 h.2]
      exact p.ok S bl_rep
    · exact p.elim
  · split at p
    · rename_i h
      refine ⟨_, _, top_dp S rx h.1, top_dp S ry h.2, shaped_of h.1, shaped_of h.2, ?_⟩
      rw [eqd_eqv 12 _ _ h.1 h.2]
      exact p.ok S bl_rep
    · exact p.elim
  · split at p
    · rename_i ys e
      split at p
      · rename_i h
        obtain ⟨a, vs, rfl, h1, h2⟩ := seqOf_at S ry e
        refine .inl ⟨a, vs, rfl, h1, flat_rep rx h.1, flats_rep h2 h.2, ?_⟩
        rw [if_neg Bool.false_ne_true, inV_rep rx h.1 h2 h.2]
        exact p.ok S bl_rep
      · exact p.elim
    · split at p
      · rename_i kv e
        split at p
        · rename_i hk
          obtain ⟨a, o, rfl, g, h1, h2⟩ := dget_at S ry rx e hk
          refine .inr ⟨a, o, rfl, g, ?_⟩
          have : o.isSome = (dget kv.2 x).isSome := by
            cases hd : dget kv.2 x with
            | none => rw [h2 hd]; rfl
            | some d => obtain ⟨w, e, _⟩ := h1 d hd; rw [e]; rfl
          rw [this]
          exact p.ok S bl_rep
        · exact p.elim
      · exact p.elim
  · split at p
    · rename_i ys e
      split at p
      · rename_i h
        obtain ⟨a, vs, rfl, h1, h2⟩ := seqOf_at S ry e
        refine .inl ⟨a, vs, rfl, h1, flat_rep rx h.1, flats_rep h2 h.2, ?_⟩
        rw [if_pos rfl, inV_rep rx h.1 h2 h.2]
        exact p.ok S bl_rep
      · exact p.elim
    · split at p
      · rename_i kv e
        split at p
        · rename_i hk
          obtain ⟨a, o, rfl, g, h1, h2⟩ := dget_at S ry rx e hk
          refine .inr ⟨a, o, rfl, g, ?_⟩
          have : o.isSome = (dget kv.2 x).isSome := by
            cases hd : dget kv.2 x with
            | none => rw [h2 hd]; rfl
            | some d => obtain ⟨w, e, _⟩ := h1 d hd; rw [e]; rfl
          rw [this]
          exact p.ok S bl_rep
        · exact p.elim
      · exact p.elim
  · exact p.elim
theorem isEmpty_reps {ds : List D} {vs : List V} (r : Reps X.K H al M ds vs) : vs.isEmpty = ds.isEmpty := by
  cases ds with
  | nil => rw [Reps] at r; subst r; rfl
  | cons d ds => rw [Reps] at r; obtain ⟨v, r', e, _⟩ := r; subst e; rfl
theorem truth_sem {d : D} {v : V} {b : Bool} (S : Sto X.toGx H al M) (r : Rep X.K H al M d v) (h : truth M d = some b) : L2.TruV X.K v H b := by
  cases d with
  | non => cases rep_non r; simp only [truth, Option.some.injEq] at h; exact h.symm
  | bl c => cases rep_bl r; simp only [truth, Option.some.injEq] at h; exact h.symm
  | int i => cases rep_int r; simp only [truth, Option.some.injEq] at h; exact h.symm
  | tup xs =>
    obtain ⟨a, vs, rfl, h1, h2⟩ := tup_at r
    simp only [truth, Option.some.injEq] at h
    exact .inr (.inl ⟨vs, SqT.of h1, by rw [isEmpty_reps h2, h]⟩)
  | lst xs =>
    obtain ⟨a, vs, rfl, h1, h2⟩ := listOf_at S r (ds := xs) rfl
    simp only [truth, Option.some.injEq] at h
    exact .inl ⟨vs, SqL.of h1, by rw [isEmpty_reps h2, h]⟩
  | ptr n =>
    simp only [truth] at h
    split at h
    · rename_i xs e
      obtain ⟨a, vs, rfl, h1, h2⟩ := listOf_at (d := .ptr n) S r (ds := xs) (by simp only [listOf]; rw [e])
      cases h
      exact .inl ⟨vs, SqL.of h1, by rw [isEmpty_reps h2]⟩
    · cases h
  | _ => simp [truth] at h

theorem atI_reps {ds : List D} {vs : List V} {i : Int} {d : D} (r : Reps X.K H al M ds vs) (h : L2.atI ds i = some d) : ∃ v, L2.atI vs i = some v ∧ Rep X.K H al M d v := by
  unfold L2.atI at h ⊢
  rw [r.length]
  cases e : L2.ixN ds.length i with
  | none => rw [e] at h; cases h
  | some j =>
    rw [e] at h
    exact r.get h
theorem ix_sem {x i : D} {u v : V} {Q : VK} (S : Sto X.toGx H al M) (rx : Rep X.K H al M x u) (ri : Rep X.K H al M i v) (p : Po X (rE X) W σ H al M Q (ixd M x i)) : L2.rIx X.K u v H Q ∨ rIxD u v H Q := by
  unfold ixd at p
  split at p
  · rename_i kv e
    split at p
    · rename_i hk
      split at p
      · rename_i d ed
        obtain ⟨a, o, rfl, g, h1, h2⟩ := dget_at S rx ri e hk
        obtain ⟨w, rfl, rw'⟩ := h1 d ed
        exact .inr ⟨a, w, rfl, g, p.ok S rw'⟩
      · exact p.elim
    · exact p.elim
  · split at p
    · split at p
      · rename_i xs e
        split at p
        · rename_i d ed
          cases rep_int ri
          obtain ⟨a, vs, rfl, h1, h2⟩ := seqOf_at S rx e
          obtain ⟨w, hw, rw'⟩ := atI_reps h2 ed
          rcases h1 with h1 | h1
          · exact .inl (.inl ⟨a, vs, _, w, rfl, rfl, h1, hw, p.ok S rw'⟩)
          · exact .inl (.inr (.inl ⟨a, vs, _, w, rfl, rfl, h1, hw, p.ok S rw'⟩))
        · exact p.elim
      · exact p.elim
    · exact p.elim
theorem cut_reps {ds : List D} {vs : List V} (lo hi : Option Int) (r : Reps X.K H al M ds vs) : Reps X.K H al M (cutd ds lo hi) (L2.cutV vs lo hi) := by
  unfold cutd L2.cutV
  rw [r.length]
  exact (r.drop _).take _
def rSl (K : PySem.W.Frag) : V → Option Int → Option Int → Hp → VK → Prop := fun x lo hi H Q => L2.rSlL K x lo hi H Q ∨ L2.rSlA K x lo hi H Q
theorem sl_ok {cx : L2.Cx} : L2.SlR cx (rSl cx.K) := L2.sl_list.or L2.sl_tupA
theorem sl_sem {x : D} {lo hi : Option Int} {u : V} {Q : VK} (S : Sto X.toGx H al M) (rx : Rep X.K H al M x u) (p : Po X (rE X) W σ H al M Q (sld M x lo hi)) : rSl X.K u lo hi H Q := by
  unfold sld at p
  split at p
  · rename_i xs
    obtain ⟨a, vs, rfl, h1, h2⟩ := tup_at rx
    refine .inr ⟨a, vs, rfl, SqT.of h1, fun hw => ?_, fun _ pp hp => Po.newT S (cut_reps lo hi h2) hp p⟩
    have : cutd xs lo hi = xs := by
      rw [h2.length] at hw
      unfold cutd
      rw [hw.1, hw.2]
      simp
    rw [this] at p
    exact p.ok S rx
  · rename_i ns
    rw [Rep] at rx
    obtain ⟨a, rfl, h1⟩ := rx
    exact .inl ⟨a, _, rfl, h1.sq, fun pp hp => Po.newC S (cut_reps lo hi (Reps.of_ints ns)) hp p⟩
  · split at p
    · rename_i xs e
      obtain ⟨a, vs, rfl, h1, h2⟩ := listOf_at S rx e
      exact .inl ⟨a, vs, rfl, SqL.of h1, fun pp hp => Po.newC S (cut_reps lo hi h2) hp p⟩
    · exact p.elim
end
end G

/-! GBi -/
set_option maxRecDepth 100000
set_option maxHeartbeats 4000000
namespace PySem
section
variable {prog : Program} {w : World} {A : Around} {E : Value → Shared → Prop} {s : Shared} {l : Addr} {xs : Array (Int × Tok)}
theorem g_iter_intTup {Q : Value → Shared → Prop} (hl : s.heap.IsTuple l (intItems xs))
    (h : ∀ s₂ : Shared, s₂ = { s with heap := s.heap.push { cls := .type "tuple_iterator", data := .fields #[.ref l, .int 0 0] } } →
      (s₂.heap.IsTupleIter s.heap.objs.size l 0 ∧ s₂.heap.IsTuple l (intItems xs)) → (∀ b ∈ [s.heap.objs.size, l], b < s₂.heap.objs.size) → l ≠ s.heap.objs.size → Q (.ref s.heap.objs.size) s₂) :
    wpAny (model prog w) A (pyIter (.ref l)) Q E s := by
  have hlt : l < s.heap.objs.size := by obtain ⟨_, e, _⟩ := hl; exact Heap.lt_size e
  refine wpAny_pyIter_tuple hl (h _ rfl ⟨⟨_, Heap.get?_push_size _ rfl, rfl, rfl⟩, hl.at fun o e => Heap.get?_push_of_some _ e⟩ (fun b hb => ?_) (Nat.ne_of_lt hlt))
  show b < (s.heap.push _).objs.size
  rw [Heap.size_push]
  rcases List.mem_cons.mp hb with rfl | hb
  · exact Nat.lt_succ_self _
  · rcases List.mem_cons.mp hb with rfl | hb
    · exact Nat.lt_succ_of_lt hlt
    · cases hb
theorem g_old_kept {h' : Heap} (hk : ∀ b o, b ∉ [s.heap.objs.size] → (s.heap.push { cls := .type "tuple_iterator", data := .fields #[.ref l, .int 0 0] }).get? b = some o → h'.get? b = some o) :
    ∀ b o, s.heap.get? b = some o → h'.get? b = some o := fun b o e => by
  refine hk b o (fun hm => ?_) (Heap.get?_push_of_some _ e)
  rcases List.mem_cons.mp hm with e1 | hm
  · exact absurd (e1 ▸ Heap.lt_size e) (Nat.lt_irrefl _)
  · cases hm
theorem g_max_intTup {Q : Value → Shared → Prop} (hh : A.handled = none) (hl : s.heap.IsTuple l (intItems xs)) (hne : 0 < xs.size)
    (h : ∀ v h' tk, (intItems xs)[argBest (fun i j => decide (numAt xs i > numAt xs j)) (xs.size - 1)]? = some v → (∀ b o, s.heap.get? b = some o → h'.get? b = some o) → Q v { s with heap := h', toks := tk }) :
    wpAny (model prog w) A (call (.builtin "max") [.ref l]) Q E s := by
  refine call_max_walk (g_iter_intTup hl fun s₂ e st hfp hlI => ?_)
  subst e
  refine ⟨_, _, _, _, _, _, _, rfl, Walks.tuple (A := A.in1) hh _ l hlI (intItems xs), st, hfp, by simpa [intItems] using hne, CmpOf.ints_gt (numAt xs) (fun _ _ => intItems_at), fun v h' tk hP hk => ?_⟩
  exact h v h' tk (by simpa [intItems] using hP) (g_old_kept hk)
theorem g_min_intTup {Q : Value → Shared → Prop} (hh : A.handled = none) (hl : s.heap.IsTuple l (intItems xs)) (hne : 0 < xs.size)
    (h : ∀ v h' tk, (intItems xs)[argBest (fun i j => decide (numAt xs i < numAt xs j)) (xs.size - 1)]? = some v → (∀ b o, s.heap.get? b = some o → h'.get? b = some o) → Q v { s with heap := h', toks := tk }) :
    wpAny (model prog w) A (call (.builtin "min") [.ref l]) Q E s := by
  refine call_min_walk (g_iter_intTup hl fun s₂ e st hfp hlI => ?_)
  subst e
  refine ⟨_, _, _, _, _, _, _, rfl, Walks.tuple (A := A.in1) hh _ l hlI (intItems xs), st, hfp, by simpa [intItems] using hne, CmpOf.ints_lt (numAt xs) (fun _ _ => intItems_at), fun v h' tk hP hk => ?_⟩
  exact h v h' tk (by simpa [intItems] using hP) (g_old_kept hk)
end
end PySem

namespace L2
open PySem PySem.Spec PyProof.Rows
section
variable {prog : Program} {w : World} {A : Around} {E : Value → Shared → Prop} {s : Shared} {l : Addr} {its : List Value} {ns : List Int} {Q : Value → Shared → Prop}
theorem g_sumT_raw (hh : A.handled = none) (hl : s.heap.IsTuple l its.toArray) (hi : IntsAre its ns)
    (h : ∀ h' tk t', (∀ b o, s.heap.get? b = some o → h'.get? b = some o) → Q (.int ns.sum t') { s with heap := h', toks := tk }) : wpAny (model prog w) A (call (.builtin "sum") [.ref l]) Q E s := by
  obtain ⟨xs, e⟩ := hi.allInts.items
  have hn : numsOf (intItems xs).toList = ns := by rw [← e]; exact hi.numsOf
  rw [nums_intItems] at hn
  rw [e] at hl
  refine PySem.W.ktm_sumG hh hl fun h' tk t' hk => ?_
  have := h h' tk t' hk
  rw [preSum_eq, List.take_of_length_le (by simp), hn]; exact this
theorem g_maxT_raw (hh : A.handled = none) (hl : s.heap.IsTuple l its.toArray) (hi : IntsAre its ns) (hne : 0 < ns.length)
    (h : ∀ h' tk M t', (∀ b o, s.heap.get? b = some o → h'.get? b = some o) → M ∈ ns → (∀ a, a ∈ ns → a ≤ M) → Q (.int M t') { s with heap := h', toks := tk }) : wpAny (model prog w) A (call (.builtin "max") [.ref l]) Q E s := by
  obtain ⟨xs, e⟩ := hi.allInts.items
  have hn : numsOf (intItems xs).toList = ns := by rw [← e]; exact hi.numsOf
  rw [nums_intItems] at hn
  subst hn
  rw [e] at hl
  have hsz : 0 < xs.size := by simpa using hne
  refine PySem.g_max_intTup hh hl hsz fun v h' tk hv hk => ?_
  obtain ⟨t, rfl⟩ := intItems_at hv
  obtain ⟨h1, h2⟩ := argBest_gt (numAt xs) (xs.size - 1)
  refine h h' tk _ t hk ?_ fun a ha => ?_
  · rw [numAt_eq]; exact PySem.getD_mem (by rw [List.length_map, Array.length_toList]; omega)
  · obtain ⟨j, hj, rfl⟩ := mem_getD ha
    rw [List.length_map, Array.length_toList] at hj
    rw [← numAt_eq]; exact h2 j (by omega)
theorem g_minT_raw (hh : A.handled = none) (hl : s.heap.IsTuple l its.toArray) (hi : IntsAre its ns) (hne : 0 < ns.length)
    (h : ∀ h' tk M t', (∀ b o, s.heap.get? b = some o → h'.get? b = some o) → M ∈ ns → (∀ a, a ∈ ns → M ≤ a) → Q (.int M t') { s with heap := h', toks := tk }) : wpAny (model prog w) A (call (.builtin "min") [.ref l]) Q E s := by
  obtain ⟨xs, e⟩ := hi.allInts.items
  have hn : numsOf (intItems xs).toList = ns := by rw [← e]; exact hi.numsOf
  rw [nums_intItems] at hn
  subst hn
  rw [e] at hl
  have hsz : 0 < xs.size := by simpa using hne
  refine PySem.g_min_intTup hh hl hsz fun v h' tk hv hk => ?_
  obtain ⟨t, rfl⟩ := intItems_at hv
  obtain ⟨h1, h2⟩ := argBest_lt (numAt xs) (xs.size - 1)
  refine h h' tk _ t hk ?_ fun a ha => ?_
  · rw [numAt_eq]; exact PySem.getD_mem (by rw [List.length_map, Array.length_toList]; omega)
  · obtain ⟨j, hj, rfl⟩ := mem_getD ha
    rw [List.length_map, Array.length_toList] at hj
    rw [← numAt_eq]; exact h2 j (by omega)
end
section
variable {X : Cx}
def g_rSumT (K : PySem.W.Frag) : List V → Hp → VK → Prop := fun vs H Q => ∃ (a : Addr) (ns : List Int), vs = [V.ref a] ∧ SqT K H a (ns.map V.int) ∧ Q (.int ns.sum) H
def g_rMaxT (K : PySem.W.Frag) : List V → Hp → VK → Prop := fun vs H Q => ∃ (a : Addr) (ns : List Int), vs = [V.ref a] ∧ SqT K H a (ns.map V.int) ∧ 0 < ns.length ∧ ∀ m, m ∈ ns → (∀ y, y ∈ ns → y ≤ m) → Q (.int m) H
def g_rMinT (K : PySem.W.Frag) : List V → Hp → VK → Prop := fun vs H Q => ∃ (a : Addr) (ns : List Int), vs = [V.ref a] ∧ SqT K H a (ns.map V.int) ∧ 0 < ns.length ∧ ∀ m, m ∈ ns → (∀ y, y ∈ ns → m ≤ y) → Q (.int m) H
theorem g_cr_sumT (hc : X.calm = true) : CallR X (.builtin "sum") (g_rSumT X.K) := by
  intro pins s σ H vs us Q I r h
  obtain ⟨a, ns, rfl, hs, q⟩ := h
  obtain ⟨its, rv, hl, _⟩ := I.tuple hs
  rw [Vals.ref1 r]
  exact g_sumT_raw (I.ok.hd hc) hl rv.ints fun h' tk t' hk => ⟨.int _, H, I.kept hk, ⟨_, rfl⟩, q⟩
theorem g_cr_maxT (hc : X.calm = true) : CallR X (.builtin "max") (g_rMaxT X.K) := by
  intro pins s σ H vs us Q I r h
  obtain ⟨a, ns, rfl, hs, hne, q⟩ := h
  obtain ⟨its, rv, hl, _⟩ := I.tuple hs
  rw [Vals.ref1 r]
  exact g_maxT_raw (I.ok.hd hc) hl rv.ints hne fun h' tk m t' hk h1 h2 => ⟨.int _, H, I.kept hk, ⟨_, rfl⟩, q m h1 h2⟩
theorem g_cr_minT (hc : X.calm = true) : CallR X (.builtin "min") (g_rMinT X.K) := by
  intro pins s σ H vs us Q I r h
  obtain ⟨a, ns, rfl, hs, hne, q⟩ := h
  obtain ⟨its, rv, hl, _⟩ := I.tuple hs
  rw [Vals.ref1 r]
  exact g_minT_raw (I.ok.hd hc) hl rv.ints hne fun h' tk m t' hk h1 h2 => ⟨.int _, H, I.kept hk, ⟨_, rfl⟩, q m h1 h2⟩
end
end L2

namespace G
open PySem (Str PyData)
open L2 (V HO Hp upd upd_same upd_ne SqL SqT Rd WX VK TE TT TA TO R2)

/-- the name of a built-in function, its value -/
def biN : Bi → Str
  | .len => "len" | .sum => "sum" | .max1 => "max" | .max2 => "max" | .min1 => "min" | .min2 => "min" | .abs => "abs" | .int => "int" | .sorted _ => "sorted" | .list _ => "list" | .tuple => "tuple" | .any => "any" | .all => "all"
def biV : Bi → PySem.Value
  | .len => .builtin "len" | .sum => .builtin "sum" | .max1 => .builtin "max" | .max2 => .builtin "max" | .min1 => .builtin "min" | .min2 => .builtin "min" | .abs => .builtin "abs" | .int => .type "int" | .sorted _ => .builtin "sorted"
  | .list _ => .type "list" | .tuple => .type "tuple" | .any => .builtin "any" | .all => .builtin "all"
theorem biBoot : ∀ f : Bi, PySem.bootBuiltins (biN f) = some (biV f)
  | .len => by decide +kernel | .sum => by decide +kernel | .max1 => by decide +kernel | .max2 => by decide +kernel | .min1 => by decide +kernel | .min2 => by decide +kernel | .abs => by decide +kernel | .int => by decide +kernel 
  | .sorted _ => by show PySem.bootBuiltins "sorted" = some (.builtin "sorted"); decide +kernel
  | .list _ => by show PySem.bootBuiltins "list" = some (.type "list"); decide +kernel
  | .tuple => by decide +kernel | .any => by decide +kernel | .all => by decide +kernel
def rBi (K : PySem.W.Frag) : Bi → List V → Hp → VK → Prop
  | .len => fun xs H Q => (∃ p ys, xs = [.ref p] ∧ (SqL K H p ys ∨ SqT K H p ys) ∧ Q (.int ys.length) H) ∨ rLenD xs H Q
  | .sum => fun vs H Q => L2.rSum K vs H Q ∨ L2.g_rSumT K vs H Q
  | .max1 => fun vs H Q => L2.rMax K vs H Q ∨ L2.g_rMaxT K vs H Q
  | .min1 => fun vs H Q => L2.rMin K vs H Q ∨ L2.g_rMinT K vs H Q
  | .max2 => fun xs H Q => ∃ i j, xs = [.int i, .int j] ∧ Q (.int (if j > i then j else i)) H
  | .min2 => fun xs H Q => ∃ i j, xs = [.int i, .int j] ∧ Q (.int (if j < i then j else i)) H
  | .abs => fun xs H Q => ∃ i, xs = [.int i] ∧ Q (.int (if i < 0 then -i else i)) H
  | .int => fun xs H Q => (∃ i, xs = [.int i] ∧ Q (.int i) H) ∨ ∃ k, xs = [.bl k] ∧ Q (.int (if k then 1 else 0)) H
  | .sorted _ => fun xs H Q => L2.rSortedI K xs H Q ∨ L2.rSortedPO K xs H Q
  | .list _ => fun xs H Q => (∃ p ys, xs = [.ref p] ∧ (SqL K H p ys ∨ SqT K H p ys) ∧ ∀ l, H l = none → Q (.ref l) (upd H l (.lst ys))) ∨ rListB xs H Q
  | .tuple => fun xs H Q => ∃ p ys, xs = [.ref p] ∧ ((SqL K H p ys ∧ ∀ l, H l = none → Q (.ref l) (upd H l (.tup ys))) ∨ (SqT K H p ys ∧ Q (.ref p) H))
  | .any => L2.rAny K
  | .all => L2.rAll K
theorem cr_rBi {cx : L2.Cx} (hc : cx.calm = true) : ∀ f : Bi, L2.CallR cx (biV f) (rBi cx.K f)
  | .len => L2.call_len_seq.or call_lenB
  | .sum => (L2.cr_sum hc).or (L2.g_cr_sumT hc)
  | .max1 => (L2.cr_max hc).or (L2.g_cr_maxT hc)
  | .min1 => (L2.cr_min hc).or (L2.g_cr_minT hc)
  | .max2 => L2.call_max2 hc
  | .min2 => L2.call_min2 hc
  | .abs => L2.call_abs
  | .int => L2.call_int1
  | .sorted _ => L2.cr_sortedI.or L2.cr_sortedPO
  | .list _ => L2.call_list_of.or (call_listB hc)
  | .tuple => L2.call_tuple_of
  | .any => L2.cr_any hc
  | .all => L2.cr_all hc

theorem max_of {ns : List Int} {m : Int} (h : maxOf ns = some m) : m ∈ ns ∧ ∀ y ∈ ns, y ≤ m := by
  have := List.max?_eq_some_iff.mp (show ns.max? = some m from h)
  exact this
theorem min_of {ns : List Int} {m : Int} (h : minOf ns = some m) : m ∈ ns ∧ ∀ y ∈ ns, m ≤ y := by
  have := List.min?_eq_some_iff.mp (show ns.min? = some m from h)
  exact this
theorem sortI_perm (ns : List Int) : (sortI ns).Perm ns := List.mergeSort_perm _ _
theorem sortI_sorted (ns : List Int) : (sortI ns).Pairwise (· ≤ ·) := by
  have := List.pairwise_mergeSort (le := fun a b : Int => decide (a ≤ b)) (fun a b c h1 h2 => by simp at *; omega) (fun a b => by simp; omega) ns
  exact this.imp (by intro a b h; simpa using h)
theorem sortI_uniq {ns ns' : List Int} (h : ns'.Perm ns) (hs : ns'.Pairwise (· ≤ ·)) : ns' = sortI ns :=
  (h.trans (sortI_perm ns).symm).eq_of_pairwise (fun a b _ _ h1 h2 => Int.le_antisymm h1 h2) hs (sortI_sorted ns)

section
variable {X : Gy} {W : WX} {σ : L2.St} {H : Hp} {al : Am} {M : Store}
theorem reps_one {d : D} {vs : List V} (r : Reps X.K H al M [d] vs) : ∃ v, vs = [v] ∧ Rep X.K H al M d v := by
  rw [Reps] at r
  obtain ⟨v, r', e, h1, h2⟩ := r
  rw [Reps] at h2
  subst h2
  exact ⟨v, e, h1⟩
theorem reps_two {d e : D} {vs : List V} (r : Reps X.K H al M [d, e] vs) : ∃ v u, vs = [v, u] ∧ Rep X.K H al M d v ∧ Rep X.K H al M e u := by
  rw [Reps] at r
  obtain ⟨v, r', e1, h1, h2⟩ := r
  obtain ⟨u, e2, h3⟩ := reps_one h2
  subst e2
  exact ⟨v, u, e1, h1, h3⟩
theorem ints_at {x : D} {v : V} {ns : List Int} (S : Sto X.toGx H al M) (r : Rep X.K H al M x v) (h : (seqOf M x).bind intsOf = some ns) : ∃ a, v = .ref a ∧ (SqL X.K H a (ns.map V.int) ∨ SqT X.K H a (ns.map V.int)) := by
  cases e : seqOf M x with
  | none => rw [e] at h; cases h
  | some ds =>
    rw [e] at h
    have e2 := intsOf_eq (show intsOf ds = some ns from h)
    subst e2
    obtain ⟨a, vs, rfl, h1, h2⟩ := seqOf_at S r e
    rw [h2.ints] at h1
    exact ⟨a, rfl, h1⟩
theorem tupT_at {x : D} {v : V} {xs : List D} (S : Sto X.toGx H al M) (r : Rep X.K H al M x v) (h : seqOf M x = some xs) :
    (∃ a vs, v = .ref a ∧ SqL X.K H a vs ∧ Reps X.K H al M xs vs) ∨ ∃ a vs, v = .ref a ∧ SqT X.K H a vs ∧ rE X H al M (.tup xs) v := by
  cases x with
  | tup ds =>
    simp only [seqOf, Option.some.injEq] at h
    subst h
    obtain ⟨a, vs, rfl, h1, h2⟩ := tup_at r
    exact .inr ⟨a, vs, rfl, SqT.of h1, r⟩
  | lst ds =>
    obtain ⟨a, vs, e, h1, h2⟩ := listOf_at S r (ds := xs) (by simpa [seqOf, listOf] using h)
    exact .inl ⟨a, vs, e, SqL.of h1, h2⟩
  | scr ns =>
    simp only [seqOf, Option.some.injEq] at h
    subst h
    rw [Rep] at r
    obtain ⟨a, e, h1⟩ := r
    exact .inl ⟨a, _, e, h1.sq, Reps.of_ints ns⟩
  | ptr n =>
    obtain ⟨a, vs, e, h1, h2⟩ := listOf_at S r (ds := xs) (by simpa [seqOf, listOf] using h)
    exact .inl ⟨a, vs, e, SqL.of h1, h2⟩
  | _ => simp [seqOf] at h
theorem bi_sem {f : Bi} {as : List D} {vs : List V} {Q : VK} (S : Sto X.toGx H al M) (r : Reps X.K H al M as vs) (p : Po X (rE X) W σ H al M Q (birun f as M)) : rBi X.K f vs H Q := by
  unfold birun at p
  split at p
  · obtain ⟨v, rfl, r1⟩ := reps_one r
    split at p
    · rename_i xs e
      obtain ⟨a, ys, rfl, h1, h2⟩ := seqOf_at S r1 e
      refine .inl ⟨a, ys, rfl, h1, ?_⟩
      rw [h2.length]
      exact p.ok S int_rep
    · split at p
      · rename_i kv e
        obtain ⟨a, w, rfl, h1, h2⟩ := dicN_at S r1 e
        obtain ⟨tk, kvs⟩ := kv
        cases tk with
        | false =>
          obtain ⟨xs, rfl, hr⟩ := h2
          refine .inr (.inl ⟨a, xs, rfl, h1, ?_⟩)
          rw [hr.length]
          exact p.ok S int_rep
        | true =>
          obtain ⟨xs, rfl, hr⟩ := h2
          refine .inr (.inr ⟨a, xs, rfl, h1, ?_⟩)
          rw [hr.length]
          exact p.ok S int_rep
      · exact p.elim
  · obtain ⟨v, rfl, r1⟩ := reps_one r
    split at p
    · rename_i ns e
      obtain ⟨a, rfl, h1 | h1⟩ := ints_at S r1 e
      · exact .inl ⟨a, ns, rfl, h1, p.ok S int_rep⟩
      · exact .inr ⟨a, ns, rfl, h1, p.ok S int_rep⟩
    · exact p.elim
  · obtain ⟨v, rfl, r1⟩ := reps_one r
    split at p
    · rename_i m e
      cases e1 : (seqOf M ‹D›).bind intsOf with
      | none => rw [e1] at e; cases e
      | some ns =>
        rw [e1] at e
        obtain ⟨m1, m2⟩ := max_of (show maxOf ns = some m from e)
        have hl : 0 < ns.length := List.length_pos_of_mem m1
        have fin : ∀ m', m' ∈ ns → (∀ y, y ∈ ns → y ≤ m') → Q (.int m') H := fun m' q1 q2 => by
          have : m' = m := Int.le_antisymm (m2 m' q1) (q2 m m1)
          subst this
          exact p.ok S int_rep
        obtain ⟨a, rfl, h1 | h1⟩ := ints_at S r1 e1
        · exact .inl ⟨a, ns, rfl, h1, hl, fin⟩
        · exact .inr ⟨a, ns, rfl, h1, hl, fin⟩
    · exact p.elim
  · obtain ⟨v, rfl, r1⟩ := reps_one r
    split at p
    · rename_i m e
      cases e1 : (seqOf M ‹D›).bind intsOf with
      | none => rw [e1] at e; cases e
      | some ns =>
        rw [e1] at e
        obtain ⟨m1, m2⟩ := min_of (show minOf ns = some m from e)
        have hl : 0 < ns.length := List.length_pos_of_mem m1
        have fin : ∀ m', m' ∈ ns → (∀ y, y ∈ ns → m' ≤ y) → Q (.int m') H := fun m' q1 q2 => by
          have : m' = m := Int.le_antisymm (q2 m m1) (m2 m' q1)
          subst this
          exact p.ok S int_rep
        obtain ⟨a, rfl, h1 | h1⟩ := ints_at S r1 e1
        · exact .inl ⟨a, ns, rfl, h1, hl, fin⟩
        · exact .inr ⟨a, ns, rfl, h1, hl, fin⟩
    · exact p.elim
  · obtain ⟨v, u, rfl, r1, r2⟩ := reps_two r
    cases rep_int r1; cases rep_int r2
    exact ⟨_, _, rfl, p.ok S int_rep⟩
  · obtain ⟨v, u, rfl, r1, r2⟩ := reps_two r
    cases rep_int r1; cases rep_int r2
    exact ⟨_, _, rfl, p.ok S int_rep⟩
  · obtain ⟨v, rfl, r1⟩ := reps_one r
    cases rep_int r1
    exact ⟨_, rfl, p.ok S int_rep⟩
  · obtain ⟨v, rfl, r1⟩ := reps_one r
    cases rep_int r1
    exact .inl ⟨_, rfl, p.ok S int_rep⟩
  · obtain ⟨v, rfl, r1⟩ := reps_one r
    split at p
    · rename_i ns e
      cases e1 : listOf M ‹D› with
      | none => rw [e1] at e; cases e
      | some ds =>
        rw [e1] at e
        have e2 := intsOf_eq (show intsOf ds = some ns from e)
        subst e2
        obtain ⟨a, vs, rfl, h1, h2⟩ := listOf_at S r1 e1
        rw [h2.ints] at h1
        refine .inl ⟨a, ns, rfl, SqL.of h1, fun ns' pp hp hs hn => ?_⟩
        rw [sortI_uniq hp hs]
        exact Po.newL S (Reps.of_ints _) hn p
    · split at p
      · rename_i ps e
        cases e1 : listOf M ‹D› with
        | none => rw [e1] at e; cases e
        | some ds =>
          rw [e1] at e
          have e2 := pairsOf_eq (show pairsOf ds = some ps from e)
          subst e2
          obtain ⟨a, vs, rfl, h1, h2⟩ := listOf_at S r1 e1
          exact .inr (sortP_sem S h1 h2 p)
      · exact p.elim
  · obtain ⟨v, rfl, r1⟩ := reps_one r
    split at p
    · rename_i xs e
      obtain ⟨a, ys, rfl, h1, h2⟩ := seqOf_at S r1 e
      exact .inl ⟨a, ys, rfl, h1, fun l hl => Po.newL S h2 hl p⟩
    · split at p
      · rename_i kv e
        obtain ⟨a, w, rfl, h1, h2⟩ := dicN_at S r1 e
        obtain ⟨tk, kvs⟩ := kv
        cases tk with
        | false =>
          obtain ⟨xs, rfl, hr⟩ := h2
          exact .inr (.inl ⟨a, xs, rfl, h1, fun q hq => Po.newL S (kD_reps hr) hq p⟩)
        | true =>
          obtain ⟨xs, rfl, hr⟩ := h2
          exact .inr (.inr ⟨a, xs, rfl, .inl h1, fun q bs hq hb => Po.newL S (tD_reps hr hb) hq p⟩)
      · exact p.elim
  · obtain ⟨v, rfl, r1⟩ := reps_one r
    split at p
    · rename_i xs e
      rcases tupT_at S r1 e with ⟨a, vs, rfl, h1, h2⟩ | ⟨a, vs, rfl, h1, e4⟩
      · exact ⟨a, vs, rfl, .inl ⟨h1, fun l hl => Po.newT S h2 hl p⟩⟩
      · exact ⟨a, vs, rfl, .inr ⟨h1, p.ok S e4⟩⟩
    · exact p.elim
  · obtain ⟨v, rfl, r1⟩ := reps_one r
    split at p
    · rename_i bs e
      cases e1 : listOf M ‹D› with
      | none => rw [e1] at e; cases e
      | some ds =>
        rw [e1] at e
        have e2 := boolsOf_eq (show boolsOf ds = some bs from e)
        subst e2
        obtain ⟨a, vs, rfl, h1, h2⟩ := listOf_at S r1 e1
        rw [Reps.bools h2] at h1
        exact ⟨a, bs, rfl, SqL.of h1, p.ok S bl_rep⟩
    · exact p.elim
  · obtain ⟨v, rfl, r1⟩ := reps_one r
    split at p
    · rename_i bs e
      cases e1 : listOf M ‹D› with
      | none => rw [e1] at e; cases e
      | some ds =>
        rw [e1] at e
        have e2 := boolsOf_eq (show boolsOf ds = some bs from e)
        subst e2
        obtain ⟨a, vs, rfl, h1, h2⟩ := listOf_at S r1 e1
        rw [Reps.bools h2] at h1
        exact ⟨a, bs, rfl, SqL.of h1, p.ok S bl_rep⟩
    · exact p.elim
  · exact p.elim

theorem ptr_at {n : Nat} {v : V} {xs : List D} (S : Sto X.toGx H al M) (r : Rep X.K H al M (.ptr n) v) (e : M[n]? = some (.lst xs)) : ∃ a vs, v = .ref a ∧ al.ad[n]? = some a ∧ H a = some (.lst vs) ∧ Reps X.K H al M xs vs ∧ live M n := by
  rw [Rep] at r
  obtain ⟨a, rfl, h1⟩ := r
  obtain ⟨vs, h2, h3⟩ := S.at_ n _ a e h1
  exact ⟨a, vs, rfl, h1, h2, h3, ⟨_, e, rfl⟩⟩
theorem Po.chgL {Q : VK} {n : Nat} {a : PySem.Addr} {d : D} {v : V} {xs : List D} {vs : List V} (S : Sto X.toGx H al M) (l : live M n) (h1 : al.ad[n]? = some a) (rs : Reps X.K H al M xs vs) (r : Rep X.K H al M d v) (p : Po X (rE X) W σ H al M Q (.ok d (M.set n (.lst xs)))) : Q v (upd H a (.lst vs)) := by
  have s : Stp H al M (upd H a (.lst vs)) al (M.set n (.lst xs)) := Stp.chg S l h1
  exact p al _ v s (S.chg l h1 ⟨vs, upd_same, Reps.mono S s _ _ rs⟩) (Rep.mono S s _ _ r)
def rBm (K : PySem.W.Frag) : Bm → V → List V → Hp → VK → Prop
  | .append => L2.rAppend
  | .popAt => L2.rPopAt
  | .pop => L2.rPop
  | .index => L2.rIndex K
def bmN : Bm → Str
  | .append => "append" | .popAt => "pop" | .pop => "pop" | .index => "index"
theorem bm_sem {f : Bm} {o : D} {as : List D} {u : V} {vs : List V} {Q : VK} (S : Sto X.toGx H al M) (ro : Rep X.K H al M o u) (r : Reps X.K H al M as vs) (p : Po X (rE X) W σ H al M Q (bmrun f o as M)) : rBm X.K f u vs H Q := by
  unfold bmrun at p
  split at p
  · obtain ⟨v, rfl, r1⟩ := reps_one r
    split at p
    · rename_i xs e
      split at p
      · rename_i hz
        obtain ⟨a, ws, rfl, h1, h2, h3, l⟩ := ptr_at S ro e
        exact ⟨a, ws, v, rfl, rfl, h2, by rw [h3.length]; exact hz, Po.chgL S l h1 (h3.append (.cons r1 .nil)) (by rw [Rep]) p⟩
      · exact p.elim
    · exact p.elim
  · obtain ⟨v, rfl, r1⟩ := reps_one r
    cases rep_int r1
    split at p
    · rename_i xs e
      split at p
      · rename_i hz
        split at p
        · rename_i y ey
          obtain ⟨a, ws, rfl, h1, h2, h3, l⟩ := ptr_at S ro e
          obtain ⟨w, hw, rw'⟩ := h3.get ey
          have hl := h3.length
          refine ⟨a, ws, _, _, w, rfl, rfl, h2, by omega, (by omega), ?_, hw, Po.chgL S l h1 (h3.erase _) rw' p⟩
          exact PySem.StrLaws.seqIndex_nonneg hz.1 (by omega)
        · exact p.elim
      · exact p.elim
    · exact p.elim
  · rw [Reps] at r
    subst r
    split at p
    · rename_i xs e
      split at p
      · rename_i y ey
        obtain ⟨a, ws, rfl, h1, h2, h3, l⟩ := ptr_at S ro e
        obtain ⟨w, hw, rw'⟩ := h3.get ey
        exact ⟨a, ws, w, rfl, rfl, h2, by rw [h3.length]; exact hw, Po.chgL S l h1 h3.dropLast rw' p⟩
      · exact p.elim
    · exact p.elim
  · obtain ⟨v, rfl, r1⟩ := reps_one r
    split at p
    · rename_i xs e
      split at p
      · rename_i hf
        split at p
        · rename_i j ej
          obtain ⟨a, ws, rfl, h1, h2⟩ := listOf_at S ro e
          obtain ⟨hj, q1, q2⟩ := List.findIdx?_eq_some_iff_getElem.mp ej
          obtain ⟨z, hz, rz⟩ := h2.get (i := j) (d := xs[j]) (by simp [hj])
          have ff : ∀ (k : Nat) (hk : k < xs.length), flatd xs[k] = true := fun k hk => List.all_eq_true.mp hf.2 _ (List.getElem_mem hk)
          refine ⟨a, ws, v, j, z, rfl, rfl, SqL.of h1, flat_rep r1 hf.1, flats_rep h2 hf.2, hz, ?_, fun m z' hm e' => ?_, p.ok S int_rep⟩
          · rw [flateq_rep rz r1 (ff j hj) hf.1]; exact q1
          · obtain ⟨d, ed, rd⟩ := h2.get' e'
            obtain ⟨hml, ed2⟩ := List.getElem?_eq_some_iff.mp ed
            subst ed2
            rw [flateq_rep rd r1 (ff m hml) hf.1]
            have := q2 m hm
            simpa using this
        · exact p.elim
      · exact p.elim
    · exact p.elim
  · exact p.elim

def tyN : Ty → String
  | .int => "int" | .bool => "bool" | .str => "str" | .tuple => "tuple" | .list => "list"
theorem tyBoot : ∀ t : Ty, PySem.bootBuiltins (Str.ofString (tyN t)) = some (.type (tyN t))
  | .int => by decide +kernel | .bool => by decide +kernel | .str => by decide +kernel | .tuple => by decide +kernel | .list => by decide +kernel
theorem kit_non (K : PySem.W.Frag) : ∀ t : Ty, PySem.W.kitOne K (.type "NoneType") (.type (tyN t)) = some false
  | .int => L2.kit_ty (by decide +kernel) | .bool => L2.kit_ty (by decide +kernel) | .str => L2.kit_ty (by decide +kernel) | .tuple => L2.kit_ty (by decide +kernel) | .list => L2.kit_ty (by decide +kernel)
theorem kit_bool (K : PySem.W.Frag) : ∀ t : Ty, PySem.W.kitOne K (.type "bool") (.type (tyN t)) = some (match t with | .bool => true | .int => true | _ => false)
  | .int => L2.kit_ty (by decide +kernel) | .bool => L2.kit_ty (by decide +kernel) | .str => L2.kit_ty (by decide +kernel) | .tuple => L2.kit_ty (by decide +kernel) | .list => L2.kit_ty (by decide +kernel)
theorem kit_int (K : PySem.W.Frag) : ∀ t : Ty, PySem.W.kitOne K (.type "int") (.type (tyN t)) = some (match t with | .int => true | _ => false)
  | .int => L2.kit_ty (by decide +kernel) | .bool => L2.kit_ty (by decide +kernel) | .str => L2.kit_ty (by decide +kernel) | .tuple => L2.kit_ty (by decide +kernel) | .list => L2.kit_ty (by decide +kernel)
theorem kit_str (K : PySem.W.Frag) : ∀ t : Ty, PySem.W.kitOne K (.type "str") (.type (tyN t)) = some (match t with | .str => true | _ => false)
  | .int => L2.kit_ty (by decide +kernel) | .bool => L2.kit_ty (by decide +kernel) | .str => L2.kit_ty (by decide +kernel) | .tuple => L2.kit_ty (by decide +kernel) | .list => L2.kit_ty (by decide +kernel)
theorem kit_tuple (K : PySem.W.Frag) : ∀ t : Ty, PySem.W.kitOne K (.type "tuple") (.type (tyN t)) = some (match t with | .tuple => true | _ => false)
  | .int => L2.kit_ty (by decide +kernel) | .bool => L2.kit_ty (by decide +kernel) | .str => L2.kit_ty (by decide +kernel) | .tuple => L2.kit_ty (by decide +kernel) | .list => L2.kit_ty (by decide +kernel)
theorem kit_list (K : PySem.W.Frag) : ∀ t : Ty, PySem.W.kitOne K (.type "list") (.type (tyN t)) = some (match t with | .list => true | _ => false)
  | .int => L2.kit_ty (by decide +kernel) | .bool => L2.kit_ty (by decide +kernel) | .str => L2.kit_ty (by decide +kernel) | .tuple => L2.kit_ty (by decide +kernel) | .list => L2.kit_ty (by decide +kernel)
theorem isTy_sem {t : Ty} {d : D} {v : V} {b : Bool} {Q : VK} (S : Sto X.toGx H al M) (r : Rep X.K H al M d v) (e : isTy M t d = some b) (q : Q (.bl b) H) : L2.rIsi X.K [v, .ty (tyN t)] H Q := by
  cases d with
  | non => cases rep_non r; simp only [isTy, Option.some.injEq] at e; subst e; exact ⟨_, _, _, _, _, rfl, .ty _, .base .non, kit_non _ t, q⟩
  | bl c => cases rep_bl r; simp only [isTy, Option.some.injEq] at e; subst e; exact ⟨_, _, _, _, _, rfl, .ty _, .base (.bl _), kit_bool _ t, q⟩
  | int i => cases rep_int r; simp only [isTy, Option.some.injEq] at e; subst e; exact ⟨_, _, _, _, _, rfl, .ty _, .base (.int _), kit_int _ t, q⟩
  | str x => cases rep_str r; simp only [isTy, Option.some.injEq] at e; subst e; exact ⟨_, _, _, _, _, rfl, .ty _, .base (.str _), kit_str _ t, q⟩
  | tup xs =>
    obtain ⟨a, vs, rfl, h1, h2⟩ := tup_at r
    simp only [isTy, Option.some.injEq] at e; subst e
    exact ⟨_, _, _, _, _, rfl, .ty _, .base (.tup h1), kit_tuple _ t, q⟩
  | lst xs =>
    obtain ⟨a, vs, rfl, h1, h2⟩ := listOf_at S r (ds := xs) rfl
    simp only [isTy, Option.some.injEq] at e; subst e
    exact ⟨_, _, _, _, _, rfl, .ty _, .base (.lst h1), kit_list _ t, q⟩
  | scr ns =>
    rw [Rep] at r
    obtain ⟨a, rfl, h1⟩ := r
    simp only [isTy, Option.some.injEq] at e; subst e
    rcases h1 with ⟨h1, _⟩ | ⟨o, h1⟩ | ⟨o, its, n, h1, h2, _⟩
    · exact ⟨_, _, _, _, _, rfl, .ty _, .base (.lst h1), kit_list _ t, q⟩
    · exact ⟨_, _, _, _, _, rfl, .ty _, .base (.frz h1), kit_list _ t, q⟩
    · exact ⟨_, _, _, _, _, rfl, .ty _, .kList h1 h2, kit_list _ t, q⟩
  | ptr n =>
    simp only [isTy] at e
    split at e
    · rename_i xs e1
      obtain ⟨a, vs, rfl, _, h1, _, _⟩ := ptr_at S r e1
      cases e
      exact ⟨_, _, _, _, _, rfl, .ty _, .base (.lst h1), kit_list _ t, q⟩
    · cases e
end
end G

/-! GAst -/
set_option maxRecDepth 100000
set_option maxHeartbeats 4000000
namespace G
open PySem PySem.Spec PyProof.Rows L2
def noStar : Expr → Bool | .Starred .. => false | _ => true
theorem starEach_cons {e : Expr} {es : List Expr} {env : Env} (h : noStar e = true) : starEach (e :: es) env = (false, eval e env) :: starEach es env := by
  cases e <;> first | rfl | cases h
theorem star_plain {env : Env} {pos : Pos} : ∀ {es : List Expr}, es.all noStar = true → (backTo pos (starEach es env)).any (·.1) = false
  | [], _ => rfl
  | e :: es, h => by
    rw [List.all_cons, Bool.and_eq_true] at h
    rw [starEach_cons h.1]
    show (false || (backTo pos (starEach es env)).any (·.1)) = false
    rw [star_plain h.2]; rfl
def noSet : Expr → Bool | .Set .. => false | _ => true
theorem behind_of {op : CmpOp} {b : Expr} (h : noSet b = true) : behindInMarks op b = false := by
  cases b <;> first | rfl | cases h
theorem lastMarks2 {o p : CmpOp} {b c : Expr} (h : noSet c = true) : lastMarks [o, p] [b, c] = false := by
  show behindInMarks p c = false
  exact behind_of h
def noSlice : Expr → Bool | .Slice .. => false | _ => true
theorem plainIx_of {b : Expr} (h : noSlice b = true) : PlainIx b := fun o i => by
  cases b <;> first | rfl | cases h
def plainT : Expr → Bool
  | .UnaryOp .Not _ _ => false | .BoolOp .. => false | .IfExp .. => false | .Compare .. => false | _ => true
theorem plainT_of {e : Expr} {env : Env} (h : plainT e = true) : ∀ whole, isTrue e env whole = (do let v ← whole; standAt e.pos; holding [v] (truthy v)) := fun whole => by
  cases e <;> first
    | rfl
    | cases h
    | (rename_i op a pos; cases op <;> first | rfl | cases h)
def okBase : Expr → Bool
  | .Call (.Name _ _) [] [] _ => false | _ => true
theorem okBase_of {o : Expr} {f : Str} {env : Env} {whole : Sem Value} (h : okBase o = true) : attributeBase o f env whole = whole := by
  unfold attributeBase
  split
  · cases h
  · rfl
def noComp : Expr → Bool
  | .ListComp .. => false | .SetComp .. => false | .DictComp .. => false | _ => true
theorem noComp_of {e : Expr} {t : Option Expr} {l : Nat} {env : Env} (h : noComp e = true) : swapsWith e t l env = pure false := by
  cases e <;> first | rfl | cases h
theorem folded_of {e : Expr} {env : Env} (h : noSet e = true) (x : Value) : foldedSetIterable e env x = pure x := by
  cases e <;> first | rfl | cases h
def noTup : Expr → Bool
  | .Tuple .. => false | _ => true
theorem swapped_of {t e : Expr} {env : Env} (h : noTup e = true) : swappedStores [t] e env = pure none := by
  cases e <;> first | (cases t <;> rfl) | cases h
theorem assignEach_one {t : Expr} {env : Env} (h : noStar t = true) : (assignEach [t] env).map (·.2) = [assign t env] := by
  cases t <;> first | rfl | cases h
theorem form_of {env : Env} {pos : Pos} {es : List Expr} (h : es.all noStar = true) (hn : es.length < 30) : methodCallForm (es.length + ([] : List Keyword).length) (backTo pos (starEach es env)) (backToKw pos (keywordEach [] env)) = true := by
  unfold methodCallForm
  have h1 := star_plain (env := env) (pos := pos) h
  have h2 : (backTo pos (starEach es env)).all (fun x => !x.1) = true := by
    rw [List.all_eq_true]
    intro x hx
    have := List.any_eq_false.mp h1 x hx
    simpa using this
  rw [h2]
  show (true && true && decide (es.length + 0 + (if ([] : List (Option Str × Sem Value)).isEmpty then 0 else 1) < 30)) = true
  simp
  omega
theorem few_of {env : Env} {pos : Pos} {es : List Expr} (h : es.all noStar = true) (hn : es.length < 30) : ((backTo pos (starEach es env)).all (fun x => !x.1) && (backToKw pos (keywordEach [] env)).all (fun x => x.1.isSome)
      && decide (es.length + ([] : List Keyword).length + (if ([] : List Keyword).isEmpty then 0 else 1) < 30)) = true := form_of h hn
theorem meth_ev {o : Expr} {m : Str} {es : List Expr} {apos pos : Pos} {env : Env} (hb : okBase o = true) (h : es.all noStar = true) (hn : es.length < 30) (hl : (apos.endLine == pos.line) = true) :
    ∃ pl, eval (.Call (.Attribute o m apos) es [] pos) env = (do
      let ov ← eval o env
      standAt apos.atName
      let (f, first) ← holding [ov] (getMethod ov m pl)
      callWith pos f first (backTo pos (starEach es env)) (backToKw pos (keywordEach [] env))) := by
  refine ⟨(do return (← importBound o env).getD true), ?_⟩
  rw [arm_eval_Call, okBase_of hb]
  have hpos : methodCallPos true o env apos pos = pure pos := by unfold methodCallPos; simp [hl]
  unfold methodCall
  rw [form_of h hn, hpos]
  rfl
end G

/-! GChk -/
set_option maxRecDepth 100000
set_option maxHeartbeats 4000000
namespace G
open PySem PySem.Spec PyProof.Rows L2

/-- where a text is looked at: the program, the scope, the names by slot -/
structure Ck where
  P : Pg
  sc : Scope
  N : List Str
  fn : Str → Bool
  /-- the def has lambdas -/
  lam : Bool := false
def Ck.vis (c : Ck) (x : Str) : Bool := match c.sc.names.lookup x with
  | some .local => true
  | some .cell => true
  | some .free => true
  | _ => false
def Ck.loc (c : Ck) (x : Str) : Bool := match c.sc.names.lookup x with
  | some .local => true
  | some .cell => true
  | _ => false
def Ck.var (c : Ck) (i : Nat) (x : Str) : Bool := decide (c.N[i]? = some x) && c.vis x && !(x == ("__debug__" : Str)) && !(x == ("__classdict__" : Str))
def Ck.tgt (c : Ck) (i : Nat) (x : Str) : Bool := decide (c.N[i]? = some x) && c.loc x && (c.fn x || (match c.sc.names.lookup x with | some .local => true | _ => false))
def Ck.glb (c : Ck) (x : Str) : Bool := (match c.sc.names.lookup x with | some .globalImplicit => true | _ => false) && !(x == ("__debug__" : Str))
def Ck.blt (c : Ck) (x : Str) : Bool := c.glb x && decide (x ≠ "__name__")
def Ck.nmd (c : Ck) (i : Nat) (x : Str) : Bool := decide (c.P.nms[i]? = some x)
def blts : List Str := ["len", "sum", "max", "min", "abs", "int", "sorted", "list", "tuple", "any", "all", "isinstance", "range", "bool", "str"]

def chkGs (c : Ck) : List Nat → List Expr → Bool
  | [], [] => true
  | i :: is, .Name x _ :: es => c.tgt i x && chkGs c is es
  | _, _ => false
def chkG (c : Ck) : Gp → Expr → Bool
  | .n i, .Name x _ => c.tgt i x
  | .t is, .Tuple es _ _ => chkGs c is es
  | _, _ => false
def ownOf (c : Ck) (g : Gp) : List (Str × Nat) := (gslots g).map fun i => (c.N.getD i Str.empty, i)
def Ck.blk (c : Ck) (scope : Scope) : Ck := { c with sc := relS scope c.sc, fn := fun x => scope.names.lookup x == some .cell, lam := false }
/-- lambda y: .., nothing else captured -/
def lamB (params : Arguments) (scope : Scope) (y : Str) : Bool :=
  (match params with
  | ⟨[], [⟨z, none, _⟩], none, [], [], none, []⟩ => decide (z = y)
  | _ => false) && decide (scope.kind = .function) && !scope.isCoroutine && !scope.isGenerator && (scope.names.all fun q => decide (q.2 ≠ .cell) && decide (q.2 ≠ .free)) &&
    decide (scope.names.lookup y = some .local) && decide (scope.names.lookup ("len" : Str) = some .globalImplicit) && !(y == ("__debug__" : Str))

mutual
def chkE (c : Ck) : Xp → Expr → Bool
  | .non, e => match e with | .Constant .none _ _ => true | _ => false
  | .bl b, e => match e with | .Constant (.bool b') _ _ => b == b' | _ => false
  | .int i, e => match e with | .Constant (.int j) _ _ => decide (i = j) | _ => false
  | .str x, e => match e with | .Constant (.str y) _ _ => decide (x = y) | _ => false
  | .v i, e => match e with | .Name x _ => c.var i x | _ => false
  | .bin o a b, e => match e with | .BinOp l op r _ => decide (op = astB o) && chkE c a l && chkE c b r | _ => false
  | .neg a, e => match e with | .UnaryOp .USub l _ => chkE c a l | _ => false
  | .notV a, e => match e with | .UnaryOp .Not l _ => chkE c a l | _ => false
  | .cmp o a b, e => match e with | .Compare l [op] [r] _ => decide (op = astC o) && chkE c a l && chkE c b r | _ => false
  | .chn o p a b d, e => match e with | .Compare l [op, op'] [r, r'] _ => decide (op = astC o) && decide (op' = astC p) && chkE c a l && chkE c b r && chkE c d r' | _ => false
  | .isN a, e => match e with | .Compare l [.Is] [.Constant .none _ _] _ => chkE c a l | _ => false
  | .notN a, e => match e with | .Compare l [.IsNot] [.Constant .none _ _] _ => chkE c a l | _ => false
  | .andV as, e => match e with | .BoolOp .And es _ => chkA c as es | _ => false
  | .orV as, e => match e with | .BoolOp .Or es _ => chkA c as es | _ => false
  | .ife t a b, e => match e with | .IfExp q l r _ => chkT c t q && chkE c a l && chkE c b r | _ => false
  | .call f as, e => match e with
    | .Call (.Name x _) es [] _ => (match c.P.fns[f]? with | some k => k.glob && decide (k.name = x) | none => false) && c.glb x && chkA c as es
    | _ => false
  | .mk k as, e => match e with
    | .Call (.Name x _) es [] _ => (match c.P.cls[k]? with | some k => decide (k.name = x) | none => false) && c.glb x && chkA c as es
    | _ => false
  | .meth o m as, e => match e with
    | .Call (.Attribute l x apos) es [] pos => c.nmd m x && okBase l && decide (es.length < 30) && (apos.endLine == pos.line) && chkE c o l && chkA c as es
    | _ => false
  | .bi f as, e => match e with
    | .Call (.Name x _) es [] _ => decide (x = biN f) && c.blt x && !es.isEmpty && chkA c as es
    | _ => false
  | .bm f o as, e => match e with
    | .Call (.Attribute l x apos) es [] pos => decide (x = bmN f) && okBase l && decide (es.length < 30) && (apos.endLine == pos.line) && (es.isEmpty == decide (f = .pop)) && chkE c o l && chkA c as es
    | _ => false
  | .isi a t, e => match e with
    | .Call (.Name x _) [l, .Name y _] [] _ => decide (x = "isinstance") && c.blt x && decide (y = Str.ofString (tyN t)) && c.blt y && chkE c a l
    | _ => false
  | .fld o f, e => match e with | .Attribute l x _ => c.nmd f x && okBase l && chkE c o l | _ => false
  | .ix o i, e => match e with | .Subscript l r _ => chkE c o l && chkE c i r | _ => false
  | .sl o lo hi, e => match e with | .Subscript l (.Slice lo' hi' none _) _ => chkE c o l && chkO c lo lo' && chkO c hi hi' | _ => false
  | .tup as, e => match e with | .Tuple es _ _ => chkA c as es | _ => false
  | .lst _ as, e => match e with | .List es _ => chkA c as es | _ => false
  | .lc _ g it t a, e => match e with
    | .ListComp l [⟨tg, iter, ifs, 0⟩] scope _ => chkI c it iter && blkC c.N c.sc scope (ownOf c g) && chkG (c.blk scope) g tg && chkIfs (c.blk scope) t ifs && chkE (c.blk scope) a l
    | _ => false
  | .frz a, e => chkE c a e
  | .lrg _ a, e => match e with | .Call (.Name x _) [.Call (.Name y _) [l] [] _] [] _ => decide (x = "list") && c.blt x && decide (y = "range") && c.blt y && chkE c a l | _ => false
  | .lrg2 _ a b, e => match e with | .Call (.Name x _) [.Call (.Name y _) [l, r] [] _] [] _ => decide (x = "list") && c.blt x && decide (y = "range") && c.blt y && chkE c a l && chkE c b r | _ => false
  | .trg a, e => match e with | .Call (.Name x _) [.Call (.Name y _) [l] [] _] [] _ => decide (x = "tuple") && c.blt x && decide (y = "range") && c.blt y && chkE c a l | _ => false
  | .trg2 a b, e => match e with | .Call (.Name x _) [.Call (.Name y _) [l, r] [] _] [] _ => decide (x = "tuple") && c.blt x && decide (y = "range") && c.blt y && chkE c a l && chkE c b r | _ => false
  | .dnew _, e => match e with | .Dict [] [] _ => true | _ => false
  | .srtk a, e => match e with
    | .Call (.Name x _) [l] [⟨some kw, .Lambda params (.Tuple [.Call (.Name u _) [.Name y _] [] _, .Name z _] _ _) scope _, _⟩] _ => c.lam && decide (x = "sorted") && c.blt x && decide (kw = "key") && lamB params scope y && decide (u = "len") && decide (z = y) && noStar l && chkE c a l
    | _ => false
  | .isB b a, e => match e with | .Compare l [.Is] [.Constant (.bool b') _ _] _ => b == b' && chkE c a l | _ => false
def chkA (c : Ck) : Xps → List Expr → Bool
  | .nil, es => match es with | [] => true | _ => false
  | .cons a r, es => match es with | e :: es => chkE c a e && chkA c r es | _ => false
def chkO (c : Ck) : Op → Option Expr → Bool
  | .no, e => match e with | none => true | _ => false
  | .so a, e => match e with | some e => chkE c a e | _ => false
def chkT (c : Ck) : Tp → Expr → Bool
  | .val a, e => plainT e && chkE c a e
  | .cmp o a b, e => match e with | .Compare l [op] [r] _ => decide (op = astC o) && chkE c a l && chkE c b r | _ => false
  | .chn o p a b d, e => match e with | .Compare l [op, op'] [r, r'] _ => decide (op = astC o) && decide (op' = astC p) && chkE c a l && chkE c b r && chkE c d r' | _ => false
  | .isN a, e => match e with | .Compare l [.Is] [.Constant .none _ _] _ => chkE c a l | _ => false
  | .notN a, e => match e with | .Compare l [.IsNot] [.Constant .none _ _] _ => chkE c a l | _ => false
  | .tnot t, e => match e with | .UnaryOp .Not l _ => chkT c t l | _ => false
  | .tand ts, e => match e with | .BoolOp .And es _ => chkTs c ts es | _ => false
  | .tor ts, e => match e with | .BoolOp .Or es _ => chkTs c ts es | _ => false
def chkTs (c : Ck) : Tps → List Expr → Bool
  | .nil, _ => false
  | .cons t .nil, es => match es with | [e] => chkT c t e | _ => false
  | .cons t (.cons u r), es => match es with | e :: e' :: es => chkT c t e && chkTs c (.cons u r) (e' :: es) | _ => false
def chkIfs (c : Ck) : Tps → List Expr → Bool
  | .nil, es => match es with | [] => true | _ => false
  | .cons t .nil, es => match es with | [e] => chkT c t e | _ => false
  | _, _ => false
def chkI (c : Ck) : Ip → Expr → Bool
  | .val a, e => chkE c a e
  | .rng1 a, e => match e with | .Call (.Name x _) [l] [] _ => decide (x = "range") && c.blt x && chkE c a l | _ => false
  | .rng2 a b, e => match e with | .Call (.Name x _) [l, r] [] _ => decide (x = "range") && c.blt x && chkE c a l && chkE c b r | _ => false
end

def plainX : Expr → Bool | .Starred .. => false | .Set .. => false | .Slice .. => false | _ => true
theorem chk_plain {c : Ck} : ∀ (x : Xp) (e : Expr), chkE c x e = true → plainX e = true
  | .frz a, e, h => chk_plain a e (by rw [chkE] at h; exact h)
  | .non, e, h => by cases e <;> first | rfl | (simp [chkE] at h; done)
  | .bl _, e, h => by cases e <;> first | rfl | (simp [chkE] at h; done)
  | .int _, e, h => by cases e <;> first | rfl | (simp [chkE] at h; done)
  | .str _, e, h => by cases e <;> first | rfl | (simp [chkE] at h; done)
  | .v _, e, h => by cases e <;> first | rfl | (simp [chkE] at h; done)
  | .bin _ _ _, e, h => by cases e <;> first | rfl | (simp [chkE] at h; done)
  | .neg _, e, h => by cases e <;> first | rfl | (simp [chkE] at h; done)
  | .notV _, e, h => by cases e <;> first | rfl | (simp [chkE] at h; done)
  | .cmp _ _ _, e, h => by cases e <;> first | rfl | (simp [chkE] at h; done)
  | .chn _ _ _ _ _, e, h => by cases e <;> first | rfl | (simp [chkE] at h; done)
  | .isN _, e, h => by cases e <;> first | rfl | (simp [chkE] at h; done)
  | .notN _, e, h => by cases e <;> first | rfl | (simp [chkE] at h; done)
  | .andV _, e, h => by cases e <;> first | rfl | (simp [chkE] at h; done)
  | .orV _, e, h => by cases e <;> first | rfl | (simp [chkE] at h; done)
  | .ife _ _ _, e, h => by cases e <;> first | rfl | (simp [chkE] at h; done)
  | .call _ _, e, h => by cases e <;> first | rfl | (simp [chkE] at h; done)
  | .mk _ _, e, h => by cases e <;> first | rfl | (simp [chkE] at h; done)
  | .meth _ _ _, e, h => by cases e <;> first | rfl | (simp [chkE] at h; done)
  | .bi _ _, e, h => by cases e <;> first | rfl | (simp [chkE] at h; done)
  | .bm _ _ _, e, h => by cases e <;> first | rfl | (simp [chkE] at h; done)
  | .isi _ _, e, h => by cases e <;> first | rfl | (simp [chkE] at h; done)
  | .fld _ _, e, h => by cases e <;> first | rfl | (simp [chkE] at h; done)
  | .ix _ _, e, h => by cases e <;> first | rfl | (simp [chkE] at h; done)
  | .sl _ _ _, e, h => by cases e <;> first | rfl | (simp [chkE] at h; done)
  | .tup _, e, h => by cases e <;> first | rfl | (simp [chkE] at h; done)
  | .lst _ _, e, h => by cases e <;> first | rfl | (simp [chkE] at h; done)
  | .lc _ _ _ _ _, e, h => by cases e <;> first | rfl | (simp [chkE] at h; done)
  | .lrg _ _, e, h => by cases e <;> first | rfl | (simp [chkE] at h; done)
  | .lrg2 _ _ _, e, h => by cases e <;> first | rfl | (simp [chkE] at h; done)
  | .trg _, e, h => by cases e <;> first | rfl | (simp [chkE] at h; done)
  | .trg2 _ _, e, h => by cases e <;> first | rfl | (simp [chkE] at h; done)
  | .dnew _, e, h => by cases e <;> first | rfl | (simp [chkE] at h; done)
  | .srtk _, e, h => by cases e <;> first | rfl | (simp [chkE] at h; done)
  | .isB _ _, e, h => by cases e <;> first | rfl | (simp [chkE] at h; done)
theorem plainX_star {e : Expr} (h : plainX e = true) : noStar e = true := by cases e <;> first | rfl | cases h
theorem plainX_set {e : Expr} (h : plainX e = true) : noSet e = true := by cases e <;> first | rfl | cases h
theorem plainX_slice {e : Expr} (h : plainX e = true) : noSlice e = true := by cases e <;> first | rfl | cases h
theorem chkA_star {c : Ck} : ∀ (as : Xps) (es : List Expr), chkA c as es = true → es.all noStar = true
  | .nil, es, h => by cases es with | nil => rfl | cons _ _ => simp [chkA] at h
  | .cons a r, es, h => by
    cases es with
    | nil => simp [chkA] at h
    | cons e es =>
      rw [chkA, Bool.and_eq_true] at h
      rw [List.all_cons, plainX_star (chk_plain a e h.1), chkA_star r es h.2]; rfl
end G

/-! GSk -/
set_option maxRecDepth 100000
set_option maxHeartbeats 4000000
namespace G
open PySem PySem.Spec PyProof.Rows
section
variable {prog : Program} {w : World} {A : Around} {E : Value → Shared → Prop} {s : Shared} {env : Env}
/-- the key's body: (len(x), x) -/
theorem key_body {x : Str} {m mg mb : Str → Option Value} {t : Addr} {items : Array Value} {k : Nat} {p1 p2 p3 p4 pos : Pos} {Q : Value → Shared → Prop} (hk : env.scope.kind = .function) (hx : env.kindOf x = some .local) (hlen : env.kindOf "len" = some .globalImplicit)
    (hd : (x == ("__debug__" : Str)) = false) (hn : s.heap.Ns env.locals m) (hm : m x = some (.ref t)) (ht : s.heap.IsTuple t items) (hsz : items.size ≤ sizeLine)
    (hg : s.heap.Ns env.globals mg) (hgl : mg "len" = none) (hb : s.heap.Ns env.builtins mb) (hbl : mb "len" = some (.builtin "len"))
    (h : ∀ tk t', Q (.ref s.heap.objs.size) { s with heap := s.heap.push { cls := .type "tuple", data := .seq #[.int items.size t', .ref t] }, toks := tk }) :
    wpAny (model prog w) A (eval (.Tuple [.Call (.Name "len" p1) [.Name x p2] [] p3, .Name x p4] k pos) env) Q E s := by
  have ld : ∀ {s : Shared} {p : Pos} {R : Value → Shared → Prop}, s.heap.Ns env.locals m → R (.ref t) s → wpAny (model prog w) A (eval (.Name x p) env) R E s := fun hn hr => wpAny_Name (wpAny_loadName_local hk hx hn hm hr) hd
  refine wpAny_Tuple_spliced ?_
  refine spliced_more (wpAny_mono (Q := fun v s' => ∃ tk t', v = .int items.size t' ∧ s' = { s with toks := tk }) ?_ ?_ fun _ _ e => e)
  · refine wpAny_Call_Name_kw (Calls.Name_function_global hk hlen (Calls.loadGlobal_builtin hg hgl hb hbl ?_))
    refine PyProof.Rows.callWith_builtin1 (spliced_more (ld hn (spliced_none ?_)))
    exact len_tuple ht (by have := L2.line63; omega) ⟨_, _, rfl, rfl⟩
  · rintro v s' ⟨tk, t', rfl, rfl⟩
    exact spliced_more (ld hn (spliced_none ⟨by simp [sizeLine], by simpa using h tk t'⟩))
/-- a call of the key's function object -/
theorem key_call {f t c' : Addr} {qual x : Str} {params : Arguments} {scope : Scope} {pm ctv : Value} {mg mb : Str → Option Value} {items : Array Value} {k : Nat} {p1 p2 p3 p4 pos : Pos} (hA : A.depth < recursionLimit) (hnl : s.heap.NoLimit)
    (of : s.heap.get? f = some (PySem.W.kla_obj "<lambda>" qual params (.Tuple [.Call (.Name "len" p1) [.Name x p2] [] p3, .Name x p4] k pos) scope [] pm c' ctv)) (hcr : s.heap.CodeRec (.ref c') qual)
    (hbind : bindArgs (PySem.W.kla_fn "<lambda>" qual params (.Tuple [.Call (.Name "len" p1) [.Name x p2] [] p3, .Name x p4] k pos) scope [] pm (.ref c') ctv) ⟨[.ref t], []⟩ = pure [(x, .ref t)])
    (hk : scope.kind = .function) (hco : scope.isCoroutine = false) (hge : scope.isGenerator = false) (hcell : ∀ y ∈ scope.names, y.2 ≠ .cell) (hx : scope.names.lookup x = some .local) (hlen : scope.names.lookup ("len" : Str) = some .globalImplicit) (hd : (x == ("__debug__" : Str)) = false)
    (ht : s.heap.IsTuple t items) (hsz : items.size ≤ sizeLine) (hg : s.heap.Ns mainGlobals mg) (hgl : mg "len" = none) (hb : s.heap.Ns builtinsNs mb) (hbl : mb "len" = some (.builtin "len")) {Q : Value → Shared → Prop}
    (h : ∀ (a : Addr) (h' : Heap) (tk : Tok) (t' : Tok), (∀ b o, s.heap.get? b = some o → h'.get? b = some o) → h'.get? a = some { cls := .type "tuple", data := .seq #[.int items.size t', .ref t] } → Q (.ref a) { s with heap := h', toks := tk }) :
    wpAny (model prog w) A (call (.ref f) [.ref t]) Q E s := by
  refine wpAny_call (codeAny_mono (R := fun r s' => ∃ v, r = .ok (.ret v) ∧ Q v s') ?_ fun r s' hq => ?_)
  · refine PySem.W.kla_callFunE hA of rfl hco hge rfl hcr ?_
    rw [hbind]
    refine wpAny_pure (wpAny_newFunctionEnv hcell (fun y hy => ?_) (fun h₁ hns hsb => ?_) hk)
    · simp at hy; subst hy; exact hx
    · have kp : ∀ b o, s.heap.get? b = some o → h₁.get? b = some o := fun b o e => hsb.extBut b o (Nat.ne_of_lt (Heap.lt_size e)) (Heap.get?_push_of_some _ e)
      refine ⟨hnl.fresh _ hsb, PySem.W.kla_codeExpr ?_⟩
      refine key_body (m := fun y => [(x, Value.ref t)].reverse.lookup y) hk hx hlen hd hns (by simp) (ht.at fun o e => kp _ o e) hsz (hg.keeps kp) hgl (hb.keeps kp) hbl fun tk t' => ?_
      exact ⟨_, rfl, h _ _ tk t' (fun b o e => Heap.get?_push_of_some _ (kp b o e)) (Heap.get?_push_size _ rfl)⟩
  · obtain ⟨v, rfl, q⟩ := hq
    exact q
/-- a tuple of ints at v -/
def TupIs (h : Heap) (v : Value) (x : List Int) : Prop := ∃ (t : Addr) (its : Array Value), v = .ref t ∧ h.IsTuple t its ∧ IntsAre its.toList x ∧ its.size ≤ sizeLine
def keyD (x : List Int) : PyData := .tuple [.int (x.length : Nat), .tuple (x.map PyData.int)]
theorem reads_ints {h : Heap} : ∀ {vs : List Value} {x : List Int}, IntsAre vs x → ReadsAll h vs (x.map PyData.int) [] := by
  intro vs x hi
  induction hi with
  | nil => exact .nil
  | cons n t _ ih => exact .cons (as := []) (.int n t) ih
theorem reads_tup {h : Heap} {t : Addr} {its : Array Value} {x : List Int} (ht : h.IsTuple t its) (hi : IntsAre its.toList x) : Reads h (.ref t) (.tuple (x.map PyData.int)) [] := by
  obtain ⟨o, e, hc, n, hd⟩ := ht
  exact .tuple e hc hd (reads_ints hi)
theorem depth_ints : ∀ x : List Int, PyData.depthAll (x.map PyData.int) = 0
  | [] => rfl
  | a :: x => by
    show max 0 (PyData.depthAll (x.map PyData.int)) = 0
    rw [depth_ints x]; rfl
theorem depth_key (x : List Int) : (keyD x).depth ≤ 4 := by
  show max 0 (max (PyData.depthAll (x.map PyData.int) + 1) 0) + 1 ≤ 4
  rw [depth_ints]; decide
theorem key_sorted {l f c' : Addr} {vs : List Value} {bs : List (List Int)} {qual x : Str} {params : Arguments} {scope : Scope} {pm ctv : Value} {mg mb : Str → Option Value} {k : Nat} {p1 p2 p3 p4 pos : Pos} {Q : Value → Shared → Prop} (hA : A.in1.in1.depth < recursionLimit) (hnl : s.heap.NoLimit) (hu : A.units + 2 + 4 < cLine)
    (hl : s.heap.IsList l vs.toArray) {R : Value → List Int → Prop} (hRT : ∀ v y, R v y → TupIs s.heap v y) (e : PySem.W.EachIs R vs bs) (hL : bs.length ≤ sizeLine)
    (of : s.heap.get? f = some (PySem.W.kla_obj "<lambda>" qual params (.Tuple [.Call (.Name "len" p1) [.Name x p2] [] p3, .Name x p4] k pos) scope [] pm c' ctv)) (hcr : s.heap.CodeRec (.ref c') qual)
    (hbind : ∀ t : Addr, bindArgs (PySem.W.kla_fn "<lambda>" qual params (.Tuple [.Call (.Name "len" p1) [.Name x p2] [] p3, .Name x p4] k pos) scope [] pm (.ref c') ctv) ⟨[.ref t], []⟩ = pure [(x, .ref t)])
    (hk : scope.kind = .function) (hco : scope.isCoroutine = false) (hge : scope.isGenerator = false) (hcell : ∀ y ∈ scope.names, y.2 ≠ .cell) (hx : scope.names.lookup x = some .local) (hlen : scope.names.lookup ("len" : Str) = some .globalImplicit) (hd : (x == ("__debug__" : Str)) = false)
    (hg : s.heap.Ns mainGlobals mg) (hgl : mg "len" = none) (hb : s.heap.Ns builtinsNs mb) (hbl : mb "len" = some (.builtin "len"))
    (h : ∀ out c h' tk, (∀ b o, s.heap.get? b = some o → h'.get? b = some o) → s.heap.get? (s.heap.objs.size + 1) = none → h'.get? (s.heap.objs.size + 1) = some (seqObj "list" (List.toArray out) c) → PySem.W.EachIs R out (bs.mergeSort (PySem.W.dataLe false keyD)) → Q (.ref (s.heap.objs.size + 1)) { s with heap := h', toks := tk }) :
    wpAny (model prog w) A (call (.builtin "sorted") [.ref l] [(Str.ofString "key", .ref f)]) Q E s := by
  refine PySem.W.sorted_key_data (b := false) keyD hl e ?_ ?_ hL (fun y _ => ?_) (ksk_s1 _ _) (fun _ => ksk_l1 _ _) (fun a => ksk_t1 f a) (fun v y hR _ h' tk kp => ?_) fun out c h' tk k1 k2 k3 _ k5 => h out c h' tk k1 k2 k3 k5
  · intro d hd1 d' hd2
    obtain ⟨y, _, rfl⟩ := List.mem_map.mp hd1
    obtain ⟨z, _, rfl⟩ := List.mem_map.mp hd2
    have := PySem.W.alike_ints y z
    simp only [keyD, PySem.W.alike, PySem.W.alikeAll, this, Bool.and_self]
  · left
    intro d hd
    obtain ⟨x, _, rfl⟩ := List.mem_map.mp hd
    exact ⟨_, _, rfl⟩
  · have := depth_key y
    omega
  · obtain ⟨t, its, rfl, ht, hi, hsz⟩ := hRT _ _ hR
    refine key_call (s := { s with heap := h', toks := tk }) hA (hnl.keeps kp) (kp _ _ of) ?_ (hbind t) hk hco hge hcell hx hlen hd (ht.at fun o e => kp _ o e) hsz (hg.keeps kp) hgl (hb.keeps kp) hbl fun a h2 tk2 t' k2 ha => ?_
    · obtain ⟨c, oc, vs, t, e, h1, r⟩ := hcr
      exact ⟨c, oc, vs, t, e, kp _ _ h1, r⟩
    · refine ⟨h2, tk2, rfl, k2, ?_⟩
      have hsz2 : its.size = y.length := by rw [← hi.length, Array.length_toList]
      rw [hsz2] at ha
      exact .tuple ha rfl rfl (.cons (as := []) (.int _ _) (.cons (as := []) (reads_tup (ht.at fun o e => k2 _ o (kp _ o e)) hi) .nil))
end
end G

namespace L2
open PySem PySem.Spec PyProof.Rows LamX
/-- tuples of ints -/
def TupV (H : Hp) (v : V) (x : List Int) : Prop := ∃ t, v = V.ref t ∧ H t = some (.tup (x.map V.int))
def keyLe : List Int → List Int → Bool := PySem.W.dataLe false G.keyD
section
variable {X : Cx}
theorem cloFrom_nil {cells : List (Str × Addr)} : ∀ {names : List (Str × NameKind)}, (∀ y ∈ names, y.2 ≠ .free) → cloFrom cells names [] = []
  | [], _ => rfl
  | (n, k) :: r, h => by
    have hk : (k == NameKind.free) = false := by
      have := h (n, k) List.mem_cons_self
      cases k <;> first | rfl | exact absurd rfl this
    show (if k == NameKind.free then _ else cloFrom cells r []) = []
    rw [hk]
    exact cloFrom_nil fun y hy => h y (List.mem_cons_of_mem _ hy)
theorem each_vals {R : V → List Int → Prop} {P : Addr → List Int → Prop} (hR : ∀ v y, R v y → ∃ t, v = V.ref t ∧ P t y) : ∀ {vs : List V} {bs : List (List Int)} {us : List Value}, PySem.W.EachIs R vs bs → Vals vs us → PySem.W.EachIs (fun v y => ∃ t, v = Value.ref t ∧ P t y) us bs := by
  intro vs bs us h
  induction h generalizing us with
  | nil => intro r; cases r; exact .nil
  | cons hd _ ih =>
    intro r
    cases r with
    | cons r1 r2 =>
      obtain ⟨t, rfl, h⟩ := hR _ _ hd
      cases r1
      exact .cons ⟨t, rfl, h⟩ (ih r2)
theorem vals_back_of {P : Addr → List Int → Prop} : ∀ {us : List Value} {bs : List (List Int)}, PySem.W.EachIs (fun v y => ∃ t, v = Value.ref t ∧ P t y) us bs → ∃ vs, PySem.W.EachIs (fun v y => ∃ t, v = V.ref t ∧ P t y) vs bs ∧ Vals vs us := by
  intro us bs h
  induction h with
  | nil => exact ⟨[], .nil, .nil⟩
  | cons hd _ ih =>
    obtain ⟨t, rfl, h⟩ := hd
    obtain ⟨vs, i1, i2⟩ := ih
    exact ⟨.ref t :: vs, .cons ⟨t, rfl, h⟩ i1, .cons rfl i2⟩
theorem ext_sql {H H' : Hp} {a : Addr} {vs : List V} (h : ExtN H H') (q : SqL X.K H a vs) : SqL X.K H' a vs := by
  rcases q with (q | ⟨o, q⟩) | q
  · exact .inl (.inl (h _ _ q (fun _ z => by cases z)))
  · exact .inl (.inr ⟨o, h _ _ q (fun _ z => by cases z)⟩)
  · exact .inr q
def tSrtk (T : List (Addr × Str)) (K : PySem.W.Frag) (te : TE) : TE := fun σ H Q => te σ H fun v H1 => ∃ a vs bs, v = V.ref a ∧ SqL K H1 a vs ∧ PySem.W.EachIs (TupV H1) vs bs ∧ Tabs T H1 ∧
  ∀ H2, ExtN H1 H2 → Tabs T H2 → ∀ ys p, PySem.W.EachIs (TupV H2) ys (bs.mergeSort keyLe) → H2 p = none → Q (.ref p) (upd H2 p (.lst ys))
theorem pe_srtk {T : List (Addr × Str)} {c P : Addr} {params : Arguments} {scope : Scope} {x : Str} {k : Nat} {e : Expr} {te : TE} {p p1 p2 p3 p4 bpos lpos kpos pos : Pos} (hg : Gl X "sorted") (hm : X.mg "sorted" = none) (hml : X.mg "len" = none) (he : PE X e te) (TB : TabB X.base X.mg c P) (hcode : X.env.code = .ref c)
    (hmT : (P, X.env.qual ++ "<lambda>") ∈ T) (hu : ∀ p ∈ T, p.1 = P → p.2 = X.env.qual ++ "<lambda>") (hdef : defaultsOf params X.env = ([], [])) (hst : G.noStar e = true) (hA : X.A.in1.in1.depth < recursionLimit) (hun : X.A.units + 2 + 4 < cLine)
    (hbind : ∀ (t c' : Addr) (pm ctv : Value) (q : Str) (body : Expr), bindArgs (PySem.W.kla_fn "<lambda>" q params body scope [] pm (.ref c') ctv) ⟨[.ref t], []⟩ = pure [(x, .ref t)])
    (hk : scope.kind = .function) (hco : scope.isCoroutine = false) (hge : scope.isGenerator = false) (hcell : ∀ y ∈ scope.names, y.2 ≠ .cell ∧ y.2 ≠ .free) (hx : scope.names.lookup x = some .local) (hlen : scope.names.lookup ("len" : Str) = some .globalImplicit) (hd : (x == ("__debug__" : Str)) = false) :
    PE X (.Call (.Name "sorted" p) [e] [⟨some "key", .Lambda params (.Tuple [.Call (.Name "len" p1) [.Name x p2] [] p3, .Name x p4] k bpos) scope lpos, kpos⟩] pos) (tSrtk T X.K te) := by
  refine ⟨fun pins s σ H Q I h => ?_⟩
  have hv : bootBuiltins "sorted" = some (.builtin "sorted") := by decide +kernel
  have h1 := G.starEach_cons (env := X.env) (es := []) hst
  have hclo : cloFrom X.env.cells scope.names [] = [] := cloFrom_nil fun y hy => (hcell y hy).2
  refine wpAny_Call_Name_kw (ld_blt I hg hm hv ?_)
  refine PyProof.Rows.callWith_kw (spliced_more (thn (he.run pins s σ H _ I h) fun u s1 ⟨v, H1, I1, r1, q1⟩ => spliced_none ?_) h1) (congrArg (backTo pos) h1) (G.star_plain (by rw [List.all_cons, hst]; rfl)) rfl rfl
  obtain ⟨a, vs, bs, rfl, hs, hE, hT, q⟩ := q1
  cases r1
  refine wpAny_evalAll_cons (wpAny_bind (LamX.lam_make2 I1 TB hcode hmT hu hT hdef (fun y hy e => absurd e (hcell y hy).2) fun f c' pm ctv H2 s2 I2 hx2 hT2 of hfn hfr hco2 => wpAny_bind (wpAny_standAt (wpAny_pure (wpAny_evalAll_nil ?_)))))
  show wpAny _ _ (call (.builtin "sorted") [.ref a] [(Str.ofString "key", .ref f)]) _ _ _
  rw [hclo] at of
  obtain ⟨its, rv, pl, hz⟩ := I2.list (ext_sql hx2 hs)
  obtain ⟨mb, b1, b2⟩ := I2.mod.blt
  obtain ⟨⟨oc, cvs, t0, e1, e2, e3⟩, _⟩ := I2.hok c' _ hco2
  have hE2 : PySem.W.EachIs (fun v y => ∃ t, v = Value.ref t ∧ H2 t = some (.tup (y.map V.int))) its bs := each_vals (fun v y ⟨t, e, h⟩ => ⟨t, e, hx2 _ _ h (fun _ z => by cases z)⟩) hE rv
  have hbl : bs.length ≤ sizeLine := by
    rw [← hE.length]; exact hz
  have tupOf : ∀ {t : Addr} {y : List Int}, H2 t = some (.tup (y.map V.int)) → G.TupIs s2.heap (.ref t) y := fun {t y} h => by
    obtain ⟨z, its2, r2, o, ho, hc, n, hd⟩ := I2.hok t _ h
    have hsz : its2.length ≤ sizeLine := by rw [← r2.length]; exact z
    exact ⟨t, its2.toArray, rfl, ⟨o, ho, hc, n, hd⟩, by simpa using r2.ints, by simpa using hsz⟩
  refine G.key_sorted (mg := X.mg) (mb := mb) hA I2.nolimit hun pl.isList (R := fun v y => ∃ t, v = Value.ref t ∧ H2 t = some (.tup (y.map V.int))) (fun v y ⟨t, e, h⟩ => by subst e; exact tupOf h) hE2 hbl of ⟨c', oc, cvs, t0, rfl, e1, e2, e3⟩ (fun t => hbind t c' pm ctv _ _) hk hco hge (fun y hy => (hcell y hy).1) hx hlen hd (I2.mod.glob.keeps I2.bk) hml (b1.keeps I2.bk) ((b2 _ (by decide)).trans (by decide +kernel)) fun out cc h' tk k1 k2 k3 k4 => ?_
  obtain ⟨ys, hy1, hy2⟩ := vals_back_of (P := fun t y => H2 t = some (.tup (y.map V.int))) k4
  have hlen : ys.length ≤ sizeLine := by
    rw [hy1.length, (List.mergeSort_perm _ _).length_eq]; exact hbl
  exact ⟨.ref _, upd H2 (s2.heap.objs.size + 1) (.lst ys), I2.laid (t' := tk) k1 (Nat.le_succ _) ⟨hlen, out, cc, hy2, k3⟩, rfl, q H2 hx2 hT2 ys _ hy1 (I2.hok.fresh (Nat.le_succ _))⟩
theorem eqvAll_ints : ∀ xs ys : List Int, PyData.eqvAll (xs.map PyData.int) (ys.map PyData.int) = decide (xs = ys)
  | [], [] => by simp [PyData.eqvAll]
  | [], y :: ys => by simp [PyData.eqvAll]
  | x :: xs, [] => by simp [PyData.eqvAll]
  | x :: xs, y :: ys => by
    simp only [List.map_cons, PyData.eqvAll, PyData.eqv, eqvAll_ints xs ys]
    by_cases h1 : x = y <;> by_cases h2 : xs = ys <;> simp [h1, h2]
theorem keyLe_eq : keyLe = G.leT := by
  funext a b
  show (!PySem.W.dataLt (G.keyD b) (G.keyD a)) = _
  unfold G.keyD
  rw [PySem.W.dataLt_pair (by simp [PySem.W.alike]) (by simp only [PySem.W.alike]; exact PySem.W.alike_ints _ _), PySem.W.dataLt_int, PySem.W.dataLt_tuple]
  have h2 := PySem.W.dataLt_ints b a
  unfold PySem.W.rowLt at h2
  rw [h2]
  have e1 : PyData.eqv (.tuple (b.map PyData.int)) (.tuple (a.map PyData.int)) = decide (b = a) := by
    simp only [PyData.eqv, eqvAll_ints]
  have e2 : PyData.eqv (.int (b.length : Nat)) (.int (a.length : Nat)) = decide (b.length = a.length) := by
    simp only [PyData.eqv]
    by_cases h : b.length = a.length
    · simp [h]
    · have h5 : ((b.length : Int) == (a.length : Int)) = false := by rw [beq_eq_false_iff_ne]; omega
      rw [h5]; simp [h]
  rw [e1, e2]
  unfold G.leT
  by_cases h : b.length = a.length
  · by_cases hb : b = a
    · subst hb; simp
    · simp [h, hb]
  · have h' : ¬ a.length = b.length := fun e => h e.symm
    have h3 : ((b.length : Int) < (a.length : Int)) ↔ b.length < a.length := by omega
    simp only [h, h', decide_false, Bool.false_eq_true, if_false, Bool.false_and, Bool.or_false, h3]
    by_cases h4 : b.length < a.length
    · have : ¬ a.length < b.length := by omega
      simp [h4, this]
    · have : a.length < b.length := by omega
      simp [h4, this]
end
end L2

/-! GSnd -/
set_option maxRecDepth 100000
set_option maxHeartbeats 4000000
namespace G
open PySem PySem.Spec PyProof.Rows L2

end G
namespace L2
open PySem PySem.Spec PyProof.Rows
theorem PE.imp {cx : Cx} {e : Expr} {t t' : TE} (h : PE cx e t) (i : ∀ σ H Q, t' σ H Q → t σ H Q) : PE cx e t' := ⟨fun pins s σ H Q I q => h.run pins s σ H Q I (i σ H Q q)⟩
theorem PT.imp {cx : Cx} {e : Expr} {t t' : TT} (h : PT cx e t) (i : ∀ σ H Q, t' σ H Q → t σ H Q) : PT cx e t' := ⟨fun pins s σ H Q I q => h.run pins s σ H Q I (i σ H Q q)⟩
theorem PW.imp {cx : Cx} {e : Expr} {t t' : TT} (h : PW cx e t) (i : ∀ σ H Q, t' σ H Q → t σ H Q) : PW cx e t' := ⟨fun wh pins s σ H Q I q => h.run wh pins s σ H Q I (i σ H Q q)⟩
theorem PA.imp {cx : Cx} {e : List Expr} {t t' : TA} (h : PA cx e t) (i : ∀ σ H Q, t' σ H Q → t σ H Q) : PA cx e t' := ⟨fun pos pins s σ H Q I q => h.run pos pins s σ H Q I (i σ H Q q)⟩
theorem PO.imp {cx : Cx} {e : Option Expr} {t t' : TO} (h : PO cx e t) (i : ∀ σ H Q, t' σ H Q → t σ H Q) : PO cx e t' := ⟨fun pins s σ H Q I q => h.run pins s σ H Q I (i σ H Q q)⟩

end L2
namespace G
open PySem PySem.Spec PyProof.Rows L2
/-- what is known of the whole text -/
structure Gz extends Gy where
  wf : Nat
  fa : Nat → Addr
  /-- code objects with lambdas, and their tables -/
  cds : List (Addr × Addr) := []

/-- a def's promise: what its run says -/
def spR (Z : Gz) (n f : Nat) : Sp := fun vs H Q E => ∃ al M ds, Sto Z.toGx H al M ∧ Reps Z.K H al M ds vs ∧ Po Z.toGy (rE Z.toGy) (fun cls d _ H' => E cls d H') [] H al M Q (callF Z.P Z.wf n f ds M)

structure FnG (Z : Gz) (cx : Cx) (n f : Nat) : Prop where
  ex : ∃ (fd : FuncData) (ps : List Str), FnOk cx.prog cx.w cx.K cx.mg cx.base (L2.CX cx.prog cx.w) (2 * n + 1) (Z.fa f) fd ps (spR Z n f) ∧ Binds cx.K fd ps []
  kp : PySem.W.keepIn cx.K (.ref (Z.fa f)) = true
/-- an exception's __init__: the fields of the new object, the last one first -/
def spX (Z : Gz) (k : Nat) (e : Er) : Sp := fun vs H Q E => ∃ (a : Addr) (us : List V), vs = .ref a :: us ∧ us.length = e.flds.length ∧ H a = some (exo a (Z.ec k) none) ∧
  ∀ d, H d = none → d ≠ a → Q .non (upd (upd H d (exd d ((e.flds.map Z.nm).zip us.reverse))) a (exo a (Z.ec k) (some d)))
structure ErG (Z : Gz) (cx : Cx) (n k : Nat) (e : Er) : Prop where
  ex : OexC cx.K (Z.ec k) ∧ ∃ (fI : Addr) (fd : FuncData) (ps : List Str), PySem.W.findIn cx.K (.ref (Z.ec k)) "__init__" = some (some (.ref fI)) ∧ PySem.W.typeIn cx.K (.ref fI) = some (.type "function") ∧
    FnOk cx.prog cx.w cx.K cx.mg cx.base (L2.CX cx.prog cx.w) (2 * n + 1) fI fd ps (spX Z k e) ∧ Binds cx.K fd ps []
  fl : ∀ f ∈ e.flds, f < Z.P.nms.length
  ne : e.flds ≠ []
  few : e.flds.length ≤ 900
/-- the text's facts, for bodies whose calls are n deep -/
structure Lnk (Z : Gz) (cx : Cx) (n : Nat) : Prop where
  K : cx.K = Z.K
  fn : ∀ f k, Z.P.fns[f]? = some k → FnG Z cx n f
  fnm : ∀ f k, Z.P.fns[f]? = some k → k.glob = true → cx.mg k.name = some (.ref (Z.fa f))
  blt : ∀ x ∈ blts, cx.mg x = none
  clm : ∀ c k, Z.P.cls[c]? = some k → cx.mg k.name = some (.ref (Z.cl c))
  cls : ∀ c k, Z.P.cls[c]? = some k → Cls cx.K (Z.cl c)
  mks : ∀ c k, Z.P.cls[c]? = some k → Mk cx.K (Z.cl c) (Z.fa k.init) ∧ ∃ j, Z.P.fns[k.init]? = some j
  meth : ∀ c k m g, Z.P.cls[c]? = some k → findM m k.meths = some g → Meth cx.K (Z.cl c) (Z.nm m) (Z.fa g) ∧ ∃ j, Z.P.fns[g]? = some j
  ers : ∀ k e, Z.P.ers[k]? = some e → ErG Z cx n k e
  erm : ∀ k e, Z.P.ers[k]? = some e → cx.mg e.name = some (.ref (Z.ec k))
  exm : ∀ c e k e', Z.P.ers[c]? = some e → Z.P.ers[k]? = some e' → PySem.W.exmOne cx.K (.ref (Z.ec c)) (.ref (Z.ec k)) = some (e.ups.contains k)
  xfc : ∀ k e, Z.P.ers[k]? = some e → XfC cx.K (Z.ec k) ∧ ∀ f ∈ e.flds, PySem.W.findIn cx.K (.ref (Z.ec k)) (Z.nm f) = some none
  noat : ∀ c k f, Z.P.cls[c]? = some k → f ∈ k.flds → NoAttr cx.K (Z.cl c) (Z.nm f)
  nms : Z.P.nms.Nodup
structure Good (Z : Gz) (c : Ck) (cx : Cx) (n : Nat) : Prop where
  lnk : Lnk Z cx n
  P : c.P = Z.P
  sc : cx.env.scope = c.sc
  N : cx.N = c.N
  nd : c.N.Nodup
  fn : cx.fn = c.fn
  calm : cx.calm = true
  room : Room (2 * n + 2) cx.A
  lam : c.lam = true → ∃ co tb : Addr, cx.env.code = .ref co ∧ LamX.TabB cx.base cx.mg co tb ∧ (tb, cx.env.qual ++ "<lambda>") ∈ Z.tbs ∧ ∀ p ∈ Z.tbs, p.1 = tb → p.2 = cx.env.qual ++ "<lambda>"
theorem Good.gl {Z : Gz} {c : Ck} {cx : Cx} {n : Nat} (g : Good Z c cx n) {x : Str} (h : c.glb x = true) : Gl cx x ∧ (x == ("__debug__" : Str)) = false := by
  unfold Ck.glb at h
  rw [Bool.and_eq_true] at h
  obtain ⟨h1, h2⟩ := h
  refine ⟨?_, by simpa using h2⟩
  show cx.env.scope.names.lookup x = _
  rw [g.sc]
  split at h1
  · assumption
  · cases h1
theorem Good.bl {Z : Gz} {c : Ck} {cx : Cx} {n : Nat} (g : Good Z c cx n) {x : Str} (h : c.blt x = true) : Gl cx x ∧ (x == ("__debug__" : Str)) = false ∧ x ≠ "__name__" := by
  unfold Ck.blt at h
  rw [Bool.and_eq_true] at h
  obtain ⟨h1, h2⟩ := g.gl h.1
  exact ⟨h1, h2, by simpa using h.2⟩
theorem Good.units {Z : Gz} {c : Ck} {cx : Cx} {n : Nat} (g : Good Z c cx n) : cx.A.units + 64 < cLine := g.room.units
theorem Good.vis {Z : Gz} {c : Ck} {cx : Cx} {n : Nat} (g : Good Z c cx n) {x : Str} (h : c.vis x = true) : Vis cx.env.scope x := by
  unfold Ck.vis at h
  unfold Vis
  rw [g.sc]
  split at h <;> first | exact .inl (by assumption) | exact .inr (.inl (by assumption)) | exact .inr (.inr (by assumption)) | cases h
theorem Good.loc {Z : Gz} {c : Ck} {cx : Cx} {n : Nat} (g : Good Z c cx n) {x : Str} (h : c.loc x = true) : L2.Loc cx.env.scope x := by
  unfold Ck.loc at h
  unfold L2.Loc
  rw [g.sc]
  split at h <;> first | exact .inl (by assumption) | exact .inr (by assumption) | cases h

section
variable {X : Cx} {CX : CXT} {k : Nat} {f C : Addr} {fd : FuncData} {ps : List Str} {sp : Sp} {E : L2.St → XK} {x m : Str} {p pos apos : Pos} {e o : Expr} {es : List Expr} {ta : TE} {t : TA}
theorem pe_callW (F : FnOk X.prog X.w X.K X.mg X.base CX k f fd ps sp) (hr : Room k X.A) (hg : Gl X x) (hm : X.mg x = some (.ref f)) (hk : PySem.W.keepIn X.K (.ref f) = true) (hb : Binds X.K fd ps []) (hx : ∀ σ, PassesAt CX X σ (E σ))
    (ha : PA X (e :: es) t) (hdb : (x == ("__debug__" : Str)) = false) (hs : (e :: es).all noStar = true) : PE X (.Call (.Name x p) (e :: es) [] pos) (tCallS sp E t) := by
  rw [List.all_cons, Bool.and_eq_true] at hs
  exact pe_callS F hr hg hm hk hb hx ha hdb (starEach_cons hs.1) (star_plain hs.2)
theorem pe_callW0 (F : FnOk X.prog X.w X.K X.mg X.base CX k f fd ps sp) (hr : Room k X.A) (hg : Gl X x) (hm : X.mg x = some (.ref f)) (hk : PySem.W.keepIn X.K (.ref f) = true) (hb : Binds X.K fd ps []) (hx : ∀ σ, PassesAt CX X σ (E σ))
    (hdb : (x == ("__debug__" : Str)) = false) : PE X (.Call (.Name x p) [] [] pos) (tCallS sp E tNil) := by
  refine ⟨fun pins s σ H Q I h => ?_⟩
  refine wpAny_Call_Name_kw (ld_glob I hg hm ?_ hdb)
  exact PySem.W.callWith_K0 I.kIn hk (run_fnS F hr hb (hx σ) I .nil h)

def tMethW (C : Addr) (m : Str) (sp : Sp) (E : L2.St → XK) (ta : TE) (t : TA) : TE := fun σ H Q => ta σ H fun x H1 => ∃ a dx fs, x = .ref a ∧ H1 a = some (.ins C dx fs) ∧ fs.lookup m = none ∧
  t σ H1 fun vs H2 => sp (x :: vs) H2 Q (E σ)
/-- o.m(..), the class known behind o -/
def tMethD (K : PySem.W.Frag) (P : Program) (w : World) (mg : Str → Option Value) (base : Heap) (CX : CXT) (k : Nat) (m : Str) (E : L2.St → XK) (ta : TE) (t : TA) : TE := fun σ H Q => ta σ H fun x H1 =>
  ∃ a C dx fs f fd ps sp, x = .ref a ∧ H1 a = some (.ins C dx fs) ∧ fs.lookup m = none ∧ Cls K C ∧ Meth K C m f ∧ FnOk P w K mg base CX k f fd ps sp ∧ Binds K fd ps [] ∧ t σ H1 fun vs H2 => sp (x :: vs) H2 Q (E σ)
theorem pe_methD (he : PE X o ta) (hr : Room k X.A) (hx : ∀ σ, PassesAt CX X σ (E σ)) (ha : PA X (e :: es) t)
    (hb : okBase o = true) (hs : (e :: es).all noStar = true) (hn : (e :: es).length < 30) (hl : (apos.endLine == pos.line) = true) :
    PE X (.Call (.Attribute o m apos) (e :: es) [] pos) (tMethD X.K X.prog X.w X.mg X.base CX k m E ta t) := by
  obtain ⟨pl, ht⟩ := meth_ev (m := m) (env := X.env) hb hs hn hl
  have hs' := hs
  rw [List.all_cons, Bool.and_eq_true] at hs'
  refine ⟨fun pins s σ H Q I h => ?_⟩
  refine PySem.W.methodCall_KW (pl := pl) (thn (he.run pins s σ H _ I h) fun u s1 ⟨x, H1, I1, rx, a, C, dx, fs, f, fd, ps, sp, ex, ea, l, c, hm, F, hb, q⟩ => ?_) ht
  subst ex
  obtain rfl : u = Value.ref a := rx
  refine getmeth_ok I1 ea c hm l ?_
  refine PySem.W.callWith_K (first := [.ref a]) (h₀ := X.base) I.ok.mod.kin hm.kp (thn (ha.run pos pins s1 σ H1 _ I1 q) fun us s2 ⟨vs, H2, I2, r, q2⟩ => ⟨I2.kIn, ?_⟩) (starEach_cons hs'.1) (star_plain hs'.2)
  exact run_fnS (us := .ref a :: us) (vs := .ref a :: vs) F hr hb (hx σ) I2 (.cons rfl r) q2
theorem pe_methD0 (he : PE X o ta) (hr : Room k X.A) (hx : ∀ σ, PassesAt CX X σ (E σ))
    (hb : okBase o = true) (hl : (apos.endLine == pos.line) = true) :
    PE X (.Call (.Attribute o m apos) [] [] pos) (tMethD X.K X.prog X.w X.mg X.base CX k m E ta tNil) := by
  obtain ⟨pl, ht⟩ := meth_ev (m := m) (env := X.env) (es := []) hb rfl (by decide) hl
  refine ⟨fun pins s σ H Q I h => ?_⟩
  refine PySem.W.methodCall_KW (pl := pl) (thn (he.run pins s σ H _ I h) fun u s1 ⟨x, H1, I1, rx, a, C, dx, fs, f, fd, ps, sp, ex, ea, l, c, hm, F, hb, q⟩ => ?_) ht
  subst ex
  obtain rfl : u = Value.ref a := rx
  refine getmeth_ok I1 ea c hm l ?_
  exact PySem.W.callWith_K0 (first := [.ref a]) I1.kIn hm.kp (run_fnS (us := [.ref a]) (vs := [.ref a]) F hr hb (hx σ) I1 (.cons rfl .nil) q)

def tMakeW (C : Addr) (sp : Sp) (E : L2.St → XK) (t : TA) : TE := fun σ H Q => t σ H fun vs H1 => ∀ x dx, H1 x = none → H1 dx = none → dx ≠ x →
  sp (.ref x :: vs) (upd (upd H1 dx (.own x)) x (.ins C dx [])) (fun v H2 => v = .non ∧ Q (.ref x) H2) (E σ)
theorem run_makeW {pins : List (Addr × Obj)} {σ : L2.St} {H : Hp} {s : Shared} {Q : VK} {us : List Value} {vs : List V} {E : XK} (M : Mk X.K C f) (F : FnOk X.prog X.w X.K X.mg X.base CX k f fd ps sp) (hr : Room (k + 1) X.A) (hb : Binds X.K fd ps [])
    (hx : PassesAt CX X σ E) (I : Inv X pins σ H s) (r : Vals vs us)
    (h : ∀ x dx, H x = none → H dx = none → dx ≠ x → sp (.ref x :: vs) (upd (upd H dx (.own x)) x (.ins C dx [])) (fun v H2 => v = .non ∧ Q (.ref x) H2) E) :
    wpAny (model X.prog X.w) X.A (call (.ref C) us) (EP X pins σ Q) X.xe s := by
  have hq := h (s.heap.objs.size + 1) s.heap.objs.size (I.hok.fresh (Nat.le_succ _)) (I.hok.fresh (Nat.le_refl _)) (Nat.ne_of_lt (Nat.lt_succ_self _))
  have I2 := Inv.made (C := C) I
  have r2 : Vals (V.ref (s.heap.objs.size + 1) :: vs) (Value.ref (s.heap.objs.size + 1) :: us) := .cons rfl r
  have hl : (Value.ref (s.heap.objs.size + 1) :: us).length = ps.length := by
    have e := r2.length
    rw [F.len _ _ _ _ hq] at e
    exact e.symm
  have b := hb _ (Value.ref (s.heap.objs.size + 1) :: us) I2.kIn (by rw [List.append_nil]; exact hl)
  rw [List.append_nil] at b
  refine wpAny_call (make_map (f := f) I.kIn M.makes M.init (beq_iff_eq.mp M.fn) (codeAny_mono (F.run _ X.stack _ _ ⟨Value.ref (s.heap.objs.size + 1) :: us, []⟩ (Value.ref (s.heap.objs.size + 1) :: us) _ _ E (hr.make C us [])
    (I2.env0.make C us []) b r2 hq) fun r s' hq' => ?_))
  cases r with
  | error e => exact hx pins _ _ e s' I2 hq'
  | ok fl =>
    cases fl with
    | ret u =>
      obtain ⟨v, H', I3, rv, ev, q3⟩ := I2.after hq'
      subst ev
      exact ⟨rv, ⟨V.ref (s.heap.objs.size + 1), H', I3, rfl, q3⟩⟩
    | next => exact False.elim hq'
    | brk => exact False.elim hq'
    | cont => exact False.elim hq'
theorem pe_makeW (M : Mk X.K C f) (F : FnOk X.prog X.w X.K X.mg X.base CX k f fd ps sp) (hr : Room (k + 1) X.A) (hg : Gl X x) (hm : X.mg x = some (.ref C)) (hb : Binds X.K fd ps []) (hx : ∀ σ, PassesAt CX X σ (E σ))
    (ha : PA X (e :: es) t) (hdb : (x == ("__debug__" : Str)) = false) (hs : (e :: es).all noStar = true) : PE X (.Call (.Name x p) (e :: es) [] pos) (tMakeW C sp E t) := by
  rw [List.all_cons, Bool.and_eq_true] at hs
  refine ⟨fun pins s σ H Q I h => ?_⟩
  refine wpAny_Call_Name_kw (ld_glob I hg hm ?_ hdb)
  refine PySem.W.callWith_K (h₀ := X.base) I.ok.mod.kin M.kp (thn (ha.run pos pins s σ H _ I h) fun us s1 ⟨vs, H1, I1, r, q⟩ => ⟨I1.kIn, ?_⟩) (starEach_cons hs.1) (star_plain hs.2)
  exact run_makeW M F hr hb (hx σ) I1 r q
theorem pe_makeW0 (M : Mk X.K C f) (F : FnOk X.prog X.w X.K X.mg X.base CX k f fd ps sp) (hr : Room (k + 1) X.A) (hg : Gl X x) (hm : X.mg x = some (.ref C)) (hb : Binds X.K fd ps []) (hx : ∀ σ, PassesAt CX X σ (E σ))
    (hdb : (x == ("__debug__" : Str)) = false) : PE X (.Call (.Name x p) [] [] pos) (tMakeW C sp E tNil) := by
  refine ⟨fun pins s σ H Q I h => ?_⟩
  refine wpAny_Call_Name_kw (ld_glob I hg hm ?_ hdb)
  exact PySem.W.callWith_K0 I.kIn M.kp (run_makeW (us := []) M F hr hb (hx σ) I .nil h)
end
end G

/-! GExpS -/
set_option maxRecDepth 100000
set_option maxHeartbeats 4000000
namespace G
open PySem PySem.Spec PyProof.Rows L2

theorem tG.mono {α β : Type} {X : Gy} {R : Rl α β} {W : WX} {f : Rho → Store → Res α} {σ : L2.St} {H : Hp} {Q Q' : β → Hp → Prop} (h : tG X R W f σ H Q) (hq : ∀ v H', Q v H' → Q' v H') : tG X R W f σ H Q' := by
  obtain ⟨al, ρ, M, S, E, p⟩ := h
  exact ⟨al, ρ, M, S, E, p.mono hq⟩
theorem Po.slot {α β : Type} {X : Gy} {R : Rl α β} {W : WX} {σ σ' : L2.St} {H : Hp} {al : Am} {M : Store} {Q : β → Hp → Prop} {r : Res α} (h : Po X R W σ H al M Q r) : Po X R (fun c d _ H => W c d σ H) σ' H al M Q r := by
  cases r <;> exact h

section
variable {Z : Gz} {K : PySem.W.Frag} {H : Hp} {al : Am} {M : Store}
theorem nm_inj {X : Gx} (hn : X.P.nms.Nodup) {i j : Nat} (hi : i < X.P.nms.length) (hj : j < X.P.nms.length) (e : X.nm i = X.nm j) : i = j := by
  unfold Gx.nm at e
  rw [List.getD_eq_getElem?_getD, List.getD_eq_getElem?_getD, List.getElem?_eq_getElem hi, List.getElem?_eq_getElem hj] at e
  exact (List.getElem_inj hn).mp e
theorem lookup_cons {x y : Str} {v : V} {r : List (Str × V)} : List.lookup x ((y, v) :: r) = if x = y then some v else List.lookup x r := by
  by_cases h : x = y
  · subst h; simp [List.lookup]
  · have hb : (x == y) = false := beq_eq_false_iff_ne.mpr h
    simp only [List.lookup, hb, if_neg h]
theorem Fsr.get {X : Gx} (hn : X.P.nms.Nodup) {f : Nat} (hf : f < X.P.nms.length) : ∀ {fs : List (Nat × D)} {vs : List (Str × V)}, (∀ p ∈ fs, p.1 < X.P.nms.length) → Fsr X.nm K H al M fs vs →
    (∀ d, getF f fs = some d → ∃ v, vs.lookup (X.nm f) = some v ∧ Rep K H al M d v) ∧ (getF f fs = none → vs.lookup (X.nm f) = none)
  | [], vs, _, r => by
    have e : vs = [] := r
    subst e
    exact ⟨fun d e => by simp [getF] at e, fun _ => rfl⟩
  | p :: fs, vs, hl, r => by
    obtain ⟨v, r', e, h1, h2⟩ := r
    subst e
    have ih := Fsr.get hn hf (fun q hq => hl q (List.mem_cons_of_mem _ hq)) h2
    have hp := hl p List.mem_cons_self
    by_cases hpf : p.1 = f
    · refine ⟨fun d e => ⟨v, ?_, ?_⟩, fun e => ?_⟩
      · rw [lookup_cons, if_pos (by rw [hpf])]
      · rw [show getF f (p :: fs) = some p.2 by obtain ⟨a, b⟩ := p; simp [getF, show a = f from hpf]] at e
        cases e; exact h1
      · obtain ⟨a, b⟩ := p
        simp [getF, show a = f from hpf] at e
    · have hne : ¬ X.nm f = X.nm p.1 := fun q => hpf (nm_inj hn hp hf q.symm)
      rw [lookup_cons, if_neg hne]
      obtain ⟨a, b⟩ := p
      rw [show getF f ((a, b) :: fs) = getF f fs by simp [getF, show ¬ a = f from hpf]]
      exact ih
theorem Fsr.set {X : Gx} (hn : X.P.nms.Nodup) {f : Nat} (hf : f < X.P.nms.length) {d : D} {v : V} (rd : Rep K H al M d v) : ∀ {fs : List (Nat × D)} {vs : List (Str × V)}, (∀ p ∈ fs, p.1 < X.P.nms.length) → Fsr X.nm K H al M fs vs →
    Fsr X.nm K H al M (setF f d fs) (putF (X.nm f) v vs) ∧ ∀ p ∈ setF f d fs, p.1 < X.P.nms.length
  | [], vs, _, r => by
    have e : vs = [] := r
    subst e
    exact ⟨⟨v, [], rfl, rd, rfl⟩, fun p hp => by simp [setF] at hp; rw [hp]; exact hf⟩
  | p :: fs, vs, hl, r => by
    obtain ⟨u, r', e, h1, h2⟩ := r
    subst e
    obtain ⟨i1, i2⟩ := Fsr.set hn hf rd (fun q hq => hl q (List.mem_cons_of_mem _ hq)) h2
    have hp := hl p List.mem_cons_self
    obtain ⟨a, b⟩ := p
    by_cases hpf : a = f
    · subst hpf
      have e1 : setF a d ((a, b) :: fs) = (a, d) :: fs := by simp [setF]
      have e2 : putF (X.nm a) v ((X.nm a, u) :: r') = (X.nm a, v) :: r' := by simp [putF]
      rw [e1]
      refine ⟨?_, fun q hq => ?_⟩
      · rw [e2]
        exact ⟨v, r', rfl, rd, h2⟩
      · rcases List.mem_cons.mp hq with rfl | hq
        · exact hp
        · exact hl q (List.mem_cons_of_mem _ hq)
    · have hne : ¬ X.nm a = X.nm f := fun q => hpf (nm_inj hn hp hf q)
      have e1 : setF f d ((a, b) :: fs) = (a, b) :: setF f d fs := by simp [setF, hpf]
      have e2 : putF (X.nm f) v ((X.nm a, u) :: r') = (X.nm a, u) :: putF (X.nm f) v r' := by simp [putF, hne]
      rw [e1]
      refine ⟨?_, fun q hq => ?_⟩
      · rw [e2]
        exact ⟨u, _, rfl, h1, i1⟩
      · rcases List.mem_cons.mp hq with rfl | hq
        · exact hp
        · exact i2 q hq
end
theorem Ck.nmd_of {c : Ck} {Z : Gz} (e : c.P = Z.P) {i : Nat} {x : Str} (h : c.nmd i x = true) : x = Z.nm i ∧ i < Z.P.nms.length := by
  unfold Ck.nmd at h
  rw [decide_eq_true_eq, e] at h
  obtain ⟨h1, h2⟩ := List.getElem?_eq_some_iff.mp h
  refine ⟨?_, h1⟩
  unfold Gx.nm
  rw [List.getD_eq_getElem?_getD, List.getElem?_eq_getElem h1]
  exact h2.symm

section
variable {Z : Gz} {n : Nat}
noncomputable abbrev rnE (Z : Gz) (n : Nat) (x : Xp) : Rho → Store → Res D := fun ρ M => runE Z.P Z.wf (callF Z.P Z.wf n) ρ x M
noncomputable abbrev rnA (Z : Gz) (n : Nat) (x : Xps) : Rho → Store → Res (List D) := fun ρ M => runA Z.P Z.wf (callF Z.P Z.wf n) ρ x M
noncomputable abbrev rnT (Z : Gz) (n : Nat) (x : Tp) : Rho → Store → Res Bool := fun ρ M => runT Z.P Z.wf (callF Z.P Z.wf n) ρ x M
noncomputable abbrev rnTs (Z : Gz) (n : Nat) (x : Tps) : Rho → Store → Res Bool := fun ρ M => runTs Z.P Z.wf (callF Z.P Z.wf n) ρ x M
noncomputable abbrev rnTo (Z : Gz) (n : Nat) (x : Tps) : Rho → Store → Res Bool := fun ρ M => runTo Z.P Z.wf (callF Z.P Z.wf n) ρ x M
noncomputable abbrev rnO (Z : Gz) (n : Nat) (x : Op) : Rho → Store → Res (Option Int) := fun ρ M => runO Z.P Z.wf (callF Z.P Z.wf n) ρ x M
abbrev PEz (Z : Gz) (n : Nat) (cx : Cx) (W : WX) (x : Xp) (e : Expr) : Prop := PE cx e (tE Z.toGy W (rnE Z n x))
abbrev PTz (Z : Gz) (n : Nat) (cx : Cx) (W : WX) (x : Tp) (e : Expr) : Prop := PT cx e (tT Z.toGy W (rnT Z n x))
abbrev PAz (Z : Gz) (n : Nat) (cx : Cx) (W : WX) (x : Xps) (e : List Expr) : Prop := PA cx e (tA Z.toGy W (rnA Z n x))

variable {cx : Cx} {c : Ck} {W : WX} {pos : Pos}
theorem z_c {v : V} {d : D} {e : Expr} {x : Xp} (h : PE cx e (tC v)) (hr : ∀ H al M, rE Z.toGy H al M d v) (hx : ∀ ρ M, rnE Z n x ρ M = .ok d M) : PEz Z n cx W x e := h.imp fun σ H Q h => by
  obtain ⟨al, ρ, M, S, E, p⟩ := h
  rw [hx] at p
  exact p.ok S (hr H al M)
theorem z_bin {o : Bop} {a b : Xp} {l r : Expr} (g : Good Z c cx n) (ha : PEz Z n cx W a l) (hb : PEz Z n cx W b r) : PEz Z n cx W (.bin o a b) (.BinOp l (astB o) r pos) := (pe_op (op_rB o) ha hb).imp fun σ H Q h => by
  unfold rnE at h; simp only [runE] at h
  refine (tG_two h).mono fun x H1 h1 => h1.mono ?_
  rintro y H2 ⟨al, M, a, b, S, r1, r2, p⟩
  rw [g.lnk.K]
  exact bop_sem S r1 r2 p
theorem z_neg {a : Xp} {l : Expr} (ha : PEz Z n cx W a l) : PEz Z n cx W (.neg a) (.UnaryOp .USub l pos) := (pe_un un_neg ha).imp fun σ H Q h => by
  unfold rnE at h; simp only [runE] at h
  refine (tG_one (R := rE Z.toGy) h).mono ?_
  rintro x H1 ⟨al, M, a, S, r1, p⟩
  split at p
  · cases rep_int (X := Z.toGy) r1; exact ⟨_, rfl, p.ok S int_rep⟩
  · exact p.elim
theorem z_notV {a : Xp} {l : Expr} (ha : PEz Z n cx W a l) : PEz Z n cx W (.notV a) (.UnaryOp .Not l pos) := (pe_not ha).imp fun σ H Q h => by
  unfold rnE at h; simp only [runE] at h
  refine (tG_one (R := rE Z.toGy) h).mono ?_
  rintro x H1 ⟨al, M, a, S, r1, p⟩
  split at p
  · cases rep_bl (X := Z.toGy) r1; exact ⟨_, rfl, p.ok S bl_rep⟩
  · exact p.elim
theorem z_cmp {o : Cop} {a b : Xp} {l r : Expr} (g : Good Z c cx n) (hs : noSet r = true) (ha : PEz Z n cx W a l) (hb : PEz Z n cx W b r) : PEz Z n cx W (.cmp o a b) (.Compare l [astC o] [r] pos) := (pe_cmpR (op_rC g.units o) ha hb (behind_of hs)).imp fun σ H Q h => by
  unfold rnE at h; simp only [runE] at h
  refine (tG_two h).mono fun x H1 h1 => h1.mono ?_
  rintro y H2 ⟨al, M, a, b, S, r1, r2, p⟩
  rw [g.lnk.K]
  exact cop_sem S r1 r2 p
theorem z_tcmp {o : Cop} {a b : Xp} {l r : Expr} (g : Good Z c cx n) (hs : noSet r = true) (ha : PEz Z n cx W a l) (hb : PEz Z n cx W b r) : PTz Z n cx W (.cmp o a b) (.Compare l [astC o] [r] pos) := (pt_cmpR (op_rC g.units o) ha hb (behind_of hs)).imp fun σ H Q h => by
  unfold rnT at h; simp only [runT] at h
  refine (tG_two h).mono fun x H1 h1 => h1.mono ?_
  rintro y H2 ⟨al, M, a, b, S, r1, r2, p⟩
  rw [g.lnk.K]
  refine cop_sem S r1 r2 (Po.mono (Po.bind p) ?_)
  rintro z H3 ⟨al3, M3, d, s3, S3, r3, p3⟩
  dsimp only at p3; split at p3
  · cases rep_bl (X := Z.toGy) r3; exact ⟨_, rfl, p3.ok S3 rfl⟩
  · exact p3.elim
/-- a op b op c -/
theorem chn_sem {α β : Type} {R : Rl α β} {o p : Cop} {fa fb fc : Rho → Store → Res D} {k : D → Store → Res α} {kf : Store → Res α} {σ : L2.St} {H : Hp} {Q : β → Hp → Prop} {Qz : VK}
    (h : tG Z.toGy R W (fun ρ M => (fa ρ M).bind fun x M1 => (fb ρ M1).bind fun y M2 => (cmpop o x y M2).bind fun z M3 => match z with
      | .bl true => (fc ρ M3).bind fun u M4 => (cmpop p y u M4).bind k
      | .bl false => kf M3
      | _ => .stuck) σ H Q)
    (hk : ∀ al M d z H', Sto Z.toGx H' al M → Rep Z.K H' al M d z → Po Z.toGy R W σ H' al M Q (k d M) → Qz z H') (hf : ∀ al M H', Sto Z.toGx H' al M → Po Z.toGy R W σ H' al M Q (kf M) → Qz (.bl false) H') :
    tChain (rC Z.K o) (rC Z.K p) (tE Z.toGy W fa) (tE Z.toGy W fb) (tE Z.toGy W fc) σ H Qz := by
  obtain ⟨al, ρ, M, S, E, q⟩ := h
  refine ⟨al, ρ, M, S, E, (Po.bind (R := rE Z.toGy) q).mono ?_⟩
  rintro x H1 ⟨al1, M1, a, s1, S1, r1, q1⟩
  refine ⟨al1, ρ, M1, S1, E.mono S s1, (Po.bind (R := rE Z.toGy) q1).mono ?_⟩
  rintro y H2 ⟨al2, M2, b, s2, S2, r2, q2⟩
  have r1' := Rep.mono S1 s2 _ _ r1
  refine cop_sem S2 r1' r2 ((Po.bind (R := rE Z.toGy) q2).mono ?_)
  rintro z H3 ⟨al3, M3, d, s3, S3, r3, q3⟩
  have r2' := Rep.mono S2 s3 _ _ r2
  have E3 := (E.mono S s1).mono S1 (s2.trans s3)
  dsimp only at q3
  split at q3
  · cases rep_bl (X := Z.toGy) r3
    refine ⟨true, rfl, iteT ⟨al3, ρ, M3, S3, E3, (Po.bind (R := rE Z.toGy) q3).mono ?_⟩⟩
    rintro u H4 ⟨al4, M4, e, s4, S4, r4, q4⟩
    refine cop_sem S4 (Rep.mono S3 s4 _ _ r2') r4 ((Po.bind (R := rE Z.toGy) q4).mono ?_)
    rintro z' H5 ⟨al5, M5, d5, s5, S5, r5, q5⟩
    exact hk al5 M5 d5 z' H5 S5 r5 q5
  · cases rep_bl (X := Z.toGy) r3
    exact ⟨false, rfl, iteF (hf al3 M3 H3 S3 q3)⟩
  · exact q3.elim
theorem Res.bind_ret {α : Type} (r : Res α) : r.bind (fun a M => .ok a M) = r := by cases r <;> rfl
theorem z_chn {o p : Cop} {a b d : Xp} {l r r' : Expr} (g : Good Z c cx n) (hs : noSet r' = true) (ha : PEz Z n cx W a l) (hb : PEz Z n cx W b r) (hd : PEz Z n cx W d r') : PEz Z n cx W (.chn o p a b d) (.Compare l [astC o, astC p] [r, r'] pos) :=
  (pe_chain (op_rC g.units o) (op_rC g.units p) ha hb hd (lastMarks2 hs)).imp fun σ H Q h => by
    unfold rnE at h; simp only [runE] at h
    rw [g.lnk.K]
    refine chn_sem (R := rE Z.toGy) (Q := Q) (k := fun z M => .ok z M) (kf := fun M => .ok (.bl false) M) ?_ (fun al M d z H' S r q => q.ok S r) (fun al M H' S q => q.ok S bl_rep)
    simp only [Res.bind_ret]
    exact h
theorem z_tchn {o p : Cop} {a b d : Xp} {l r r' : Expr} (g : Good Z c cx n) (hs : noSet r' = true) (ha : PEz Z n cx W a l) (hb : PEz Z n cx W b r) (hd : PEz Z n cx W d r') : PTz Z n cx W (.chn o p a b d) (.Compare l [astC o, astC p] [r, r'] pos) :=
  (pt_chain (op_rC g.units o) (op_rC g.units p) ha hb hd (lastMarks2 hs)).imp fun σ H Q h => by
    unfold rnT at h; simp only [runT] at h
    rw [g.lnk.K]
    refine chn_sem (R := rId) (Q := Q) (k := fun z M => match z with | .bl k => .ok k M | _ => .stuck) (kf := fun M => .ok false M) ?_ (fun al M d z H' S r q => ?_) (fun al M H' S q => ⟨false, rfl, q.ok S rfl⟩)
    · exact h
    · split at q
      · cases rep_bl (X := Z.toGy) r; exact ⟨_, rfl, q.ok S rfl⟩
      · exact q.elim
theorem non_iff {X : Gy} {H : Hp} {al : Am} {M : Store} {d : D} {v : V} (r : Rep X.K H al M d v) : decide (v = .non) = (match d with | .non => true | _ => false) := by
  cases d with
  | non => cases rep_non r; rfl
  | bl b => cases rep_bl r; rfl
  | int i => cases rep_int r; rfl
  | str x => cases rep_str r; rfl
  | tup xs => obtain ⟨a, vs, rfl, _⟩ := tup_at r; rfl
  | lst xs => rw [Rep] at r; obtain ⟨a, vs, rfl, _⟩ := r; rfl
  | scr ns => rw [Rep] at r; obtain ⟨a, rfl, _⟩ := r; rfl
  | ptr n => rw [Rep] at r; obtain ⟨a, rfl, _⟩ := r; rfl
def tIsB (b : Bool) (ta : TE) : TE := fun σ H Q => ta σ H fun x H1 => ∃ c, x = .bl c ∧ Q (.bl (c == b)) H1
theorem pc_isB {X : Cx} {b : Bool} {ta : TE} {a : Expr} {j : Nat} {pos' : Pos} (ha : PE X a ta) : PC X .Is a (.Constant (.bool b) j pos') (tIsB b ta) := by
  refine ⟨fun pins s σ H Q I h => ?_⟩
  refine thn (ha.run pins s σ H _ I h) fun v s1 ⟨x, H1, I1, r1, q1⟩ => ?_
  obtain ⟨c, rfl, q⟩ := q1
  cases r1
  refine Constant_bool ?_
  show wpAny _ _ (compareOp .Is (.bool c) (.bool b)) _ _ _
  exact wpAny_pure ⟨.bl _, H1, I1, by cases c <;> cases b <;> rfl, q⟩
theorem z_isB {b : Bool} {a : Xp} {l : Expr} {k : Nat} {p' : Pos} (ha : PEz Z n cx W a l) : PEz Z n cx W (.isB b a) (.Compare l [.Is] [.Constant (.bool b) k p'] pos) := (pe_cmp (pc_isB ha) rfl).imp fun σ H Q h => by
  unfold rnE at h; simp only [runE] at h
  refine (tG_one (R := rE Z.toGy) h).mono ?_
  rintro x H1 ⟨al, M, a, S, r1, p⟩
  split at p
  · rename_i c
    exact ⟨c, rep_bl (X := Z.toGy) r1, p.ok S bl_rep⟩
  · exact p.elim
theorem z_isN {a : Xp} {l : Expr} {k : Nat} {p' : Pos} (ha : PEz Z n cx W a l) : PEz Z n cx W (.isN a) (.Compare l [.Is] [.Constant .none k p'] pos) := (pe_cmp (pc_isN ha) rfl).imp fun σ H Q h => by
  unfold rnE at h; simp only [runE] at h
  refine (tG_one (R := rE Z.toGy) h).mono ?_
  rintro x H1 ⟨al, M, a, S, r1, p⟩
  rw [non_iff (X := Z.toGy) r1]
  have := p.ok S bl_rep
  cases a <;> exact this
theorem z_notN {a : Xp} {l : Expr} {k : Nat} {p' : Pos} (ha : PEz Z n cx W a l) : PEz Z n cx W (.notN a) (.Compare l [.IsNot] [.Constant .none k p'] pos) := (pe_cmp (pc_notN ha) rfl).imp fun σ H Q h => by
  unfold rnE at h; simp only [runE] at h
  refine (tG_one (R := rE Z.toGy) h).mono ?_
  rintro x H1 ⟨al, M, a, S, r1, p⟩
  rw [non_iff (X := Z.toGy) r1]
  have := p.ok S bl_rep
  cases a <;> exact this
theorem z_tisN {a : Xp} {l : Expr} {k : Nat} {p' : Pos} (ha : PEz Z n cx W a l) : PTz Z n cx W (.isN a) (.Compare l [.Is] [.Constant .none k p'] pos) := (pt_cmp (pc_isN ha) rfl).imp fun σ H Q h => by
  unfold rnT at h; simp only [runT] at h
  refine (tG_one (R := rE Z.toGy) h).mono ?_
  rintro x H1 ⟨al, M, a, S, r1, p⟩
  refine ⟨_, rfl, ?_⟩
  rw [non_iff (X := Z.toGy) r1]
  have := p.ok S rfl
  cases a <;> exact this
theorem z_tnotN {a : Xp} {l : Expr} {k : Nat} {p' : Pos} (ha : PEz Z n cx W a l) : PTz Z n cx W (.notN a) (.Compare l [.IsNot] [.Constant .none k p'] pos) := (pt_cmp (pc_notN ha) rfl).imp fun σ H Q h => by
  unfold rnT at h; simp only [runT] at h
  refine (tG_one (R := rE Z.toGy) h).mono ?_
  rintro x H1 ⟨al, M, a, S, r1, p⟩
  refine ⟨_, rfl, ?_⟩
  rw [non_iff (X := Z.toGy) r1]
  have := p.ok S rfl
  cases a <;> exact this
theorem z_ife {t : Tp} {a b : Xp} {q l r : Expr} (ht : PTz Z n cx W t q) (ha : PEz Z n cx W a l) (hb : PEz Z n cx W b r) : PEz Z n cx W (.ife t a b) (.IfExp q l r pos) := (pe_ifExp ht ha hb).imp fun σ H Q h => by
  unfold rnE at h; simp only [runE] at h
  refine (tG_then (R := rId) (f := rnT Z n t) (g := fun ρ k M1 => match k with | true => rnE Z n a ρ M1 | false => rnE Z n b ρ M1) h).mono ?_
  rintro k H1 ⟨al, ρ, M, k', S, E, e, p⟩
  cases e
  cases k with
  | true => exact iteT ⟨al, ρ, M, S, E, p⟩
  | false => exact iteF ⟨al, ρ, M, S, E, p⟩
theorem z_val {a : Xp} {e : Expr} (g : Good Z c cx n) (hp : plainT e = true) (ha : PEz Z n cx W a e) : PTz Z n cx W (.val a) e := (pt_truth ha (plainT_of hp)).imp fun σ H Q h => by
  unfold rnT at h; simp only [runT] at h
  refine (tG_one (R := rE Z.toGy) h).mono ?_
  rintro x H1 ⟨al, M, a, S, r1, p⟩
  split at p
  · rename_i b e1
    refine ⟨b, ?_, p.ok S rfl⟩
    rw [g.lnk.K]
    exact truth_sem S r1 e1
  · exact p.elim
theorem z_tnot {t : Tp} {e : Expr} (ht : PTz Z n cx W t e) : PTz Z n cx W (.tnot t) (.UnaryOp .Not e pos) := (pt_not ht).imp fun σ H Q h => by
  unfold rnT at h; simp only [runT] at h
  refine (tG_one (R := rId) h).mono ?_
  rintro k H1 ⟨al, M, k', S, e, p⟩
  cases e
  exact p.ok S rfl
end
end G

/-! GExpT -/
set_option maxRecDepth 100000
set_option maxHeartbeats 4000000
namespace G
open PySem PySem.Spec PyProof.Rows L2
section
variable {Z : Gz} {n : Nat} {cx : Cx} {c : Ck} {W : WX} {pos : Pos}
theorem z_nilA : PAz Z n cx W .nil [] := pa_nil.imp fun σ H Q h => by
  obtain ⟨al, ρ, M, S, E, p⟩ := h
  simp only [rnA, runA] at p
  exact p.ok S Reps.nil
theorem z_consA {a : Xp} {r : Xps} {e : Expr} {es : List Expr} (hs : noStar e = true) (ha : PEz Z n cx W a e) (hr : PAz Z n cx W r es) : PAz Z n cx W (.cons a r) (e :: es) := (pa_cons ha hr (starEach_cons hs)).imp fun σ H Q h => by
  unfold rnA at h; simp only [runA] at h
  refine (tG_then (R := rE Z.toGy) (f := rnE Z n a) (g := fun ρ x M1 => (rnA Z n r ρ M1).bind fun xs M2 => .ok (x :: xs) M2) h).mono ?_
  rintro v H1 ⟨al, ρ, M, d, S, E, r1, p⟩
  refine ⟨al, ρ, M, S, E, (Po.bind (R := rA Z.toGy) p).mono ?_⟩
  rintro vs H2 ⟨al2, M2, ds, s2, S2, r2, p2⟩
  exact p2.ok S2 (Reps.cons (Rep.mono S s2 _ _ r1) r2)

theorem z_and1 {a : Xp} {e : Expr} (ha : PEz Z n cx W a e) : PEz Z n cx W (.andV (.cons a .nil)) (.BoolOp .And [e] pos) := (pe_one ha).imp fun σ H Q h => by
  unfold rnE at h; simp only [runE, runAnd] at h; exact h
theorem z_or1 {a : Xp} {e : Expr} (ha : PEz Z n cx W a e) : PEz Z n cx W (.orV (.cons a .nil)) (.BoolOp .Or [e] pos) := (pe_one ha).imp fun σ H Q h => by
  unfold rnE at h; simp only [runE, runOr] at h; exact h
theorem z_and2 {a b : Xp} {r : Xps} {e e' : Expr} {es : List Expr} (ha : PEz Z n cx W a e) (hb : PEz Z n cx W (.andV (.cons b r)) (.BoolOp .And (e' :: es) pos)) : PEz Z n cx W (.andV (.cons a (.cons b r))) (.BoolOp .And (e :: e' :: es) pos) :=
  (pe_and ha hb).imp fun σ H Q h => by
    unfold rnE at h; simp only [runE, runAnd] at h
    refine (tG_then (R := rE Z.toGy) (f := rnE Z n a) (g := fun ρ x M1 => match x with | .bl true => runAnd Z.P Z.wf (callF Z.P Z.wf n) ρ (.cons b r) M1 | .bl false => .ok (.bl false) M1 | _ => .stuck) h).mono ?_
    rintro v H1 ⟨al, ρ, M, d, S, E, r1, p⟩
    try dsimp only at p
    split at p
    · cases rep_bl (X := Z.toGy) r1
      refine ⟨true, rfl, iteT ⟨al, ρ, M, S, E, ?_⟩⟩
      simp only [rnE, runE]; exact p
    · cases rep_bl (X := Z.toGy) r1
      exact ⟨false, rfl, iteF (p.ok S bl_rep)⟩
    · exact p.elim
theorem z_or2 {a b : Xp} {r : Xps} {e e' : Expr} {es : List Expr} (ha : PEz Z n cx W a e) (hb : PEz Z n cx W (.orV (.cons b r)) (.BoolOp .Or (e' :: es) pos)) : PEz Z n cx W (.orV (.cons a (.cons b r))) (.BoolOp .Or (e :: e' :: es) pos) :=
  (pe_or ha hb).imp fun σ H Q h => by
    unfold rnE at h; simp only [runE, runOr] at h
    refine (tG_then (R := rE Z.toGy) (f := rnE Z n a) (g := fun ρ x M1 => match x with | .bl false => runOr Z.P Z.wf (callF Z.P Z.wf n) ρ (.cons b r) M1 | .bl true => .ok (.bl true) M1 | _ => .stuck) h).mono ?_
    rintro v H1 ⟨al, ρ, M, d, S, E, r1, p⟩
    try dsimp only at p
    split at p
    · cases rep_bl (X := Z.toGy) r1
      refine ⟨false, rfl, iteF ⟨al, ρ, M, S, E, ?_⟩⟩
      simp only [rnE, runE]; exact p
    · cases rep_bl (X := Z.toGy) r1
      exact ⟨true, rfl, iteT (p.ok S bl_rep)⟩
    · exact p.elim
theorem z_tand1 {a : Tp} {e : Expr} (ha : PTz Z n cx W a e) : PW cx (.BoolOp .And [e] pos) (tT Z.toGy W (rnTs Z n (.cons a .nil))) := (pw_and1 ha).imp fun σ H Q h => by
  unfold rnTs at h; simp only [runTs] at h; exact h
theorem z_tor1 {a : Tp} {e : Expr} (ha : PTz Z n cx W a e) : PW cx (.BoolOp .Or [e] pos) (tT Z.toGy W (rnTo Z n (.cons a .nil))) := (pw_or1 ha).imp fun σ H Q h => by
  unfold rnTo at h; simp only [runTo] at h; exact h
theorem z_tand2 {a b : Tp} {r : Tps} {e e' : Expr} {es : List Expr} (ha : PTz Z n cx W a e) (hb : PW cx (.BoolOp .And (e' :: es) pos) (tT Z.toGy W (rnTs Z n (.cons b r)))) : PW cx (.BoolOp .And (e :: e' :: es) pos) (tT Z.toGy W (rnTs Z n (.cons a (.cons b r)))) :=
  (pw_and ha hb).imp fun σ H Q h => by
    unfold rnTs at h; simp only [runTs] at h
    refine (tG_then (R := rId) (f := rnT Z n a) (g := fun ρ k M1 => match k with | true => rnTs Z n (.cons b r) ρ M1 | false => .ok false M1) h).mono ?_
    rintro k H1 ⟨al, ρ, M, d, S, E, e, p⟩
    cases e
    cases k with
    | true => exact iteT ⟨al, ρ, M, S, E, p⟩
    | false => exact iteF (p.ok S rfl)
theorem z_tor2 {a b : Tp} {r : Tps} {e e' : Expr} {es : List Expr} (ha : PTz Z n cx W a e) (hb : PW cx (.BoolOp .Or (e' :: es) pos) (tT Z.toGy W (rnTo Z n (.cons b r)))) : PW cx (.BoolOp .Or (e :: e' :: es) pos) (tT Z.toGy W (rnTo Z n (.cons a (.cons b r)))) :=
  (pw_or ha hb).imp fun σ H Q h => by
    unfold rnTo at h; simp only [runTo] at h
    refine (tG_then (R := rId) (f := rnT Z n a) (g := fun ρ k M1 => match k with | true => .ok true M1 | false => rnTo Z n (.cons b r) ρ M1) h).mono ?_
    rintro k H1 ⟨al, ρ, M, d, S, E, e, p⟩
    cases e
    cases k with
    | true => exact iteT (p.ok S rfl)
    | false => exact iteF ⟨al, ρ, M, S, E, p⟩

theorem z_call {f : Nat} {k : Fn} {as : Xps} {es : List Expr} {x : Str} {p : Pos} (g : Good Z c cx n) (tk : Takes cx W) (hf : Z.P.fns[f]? = some k) (hgl : k.glob = true) (hx : k.name = x) (hc : c.glb x = true) (hst : es.all noStar = true)
    (hl : (as = .nil ∧ es = []) ∨ ∃ e es', es = e :: es') (ha : PAz Z n cx W as es) : PEz Z n cx W (.call f as) (.Call (.Name x p) es [] pos) := by
  obtain ⟨⟨fd, ps, F, hb⟩, kp⟩ := g.lnk.fn f k hf
  have hm := g.lnk.fnm f k hf hgl
  rw [hx] at hm
  obtain ⟨hg, hdb⟩ := g.gl hc
  have hr : Room (2 * n + 1) cx.A := g.room.mono (by omega)
  rcases hl with ⟨rfl, rfl⟩ | ⟨e, es', rfl⟩
  · refine (pe_callW0 F hr hg hm kp hb (fun σ => passAt tk σ) hdb).imp fun σ H Q h => ?_
    unfold rnE at h; simp only [runE, runA, bind_ok] at h
    obtain ⟨al, ρ, M, S, E, q⟩ := h
    exact ⟨al, M, [], S, Reps.nil, q.slot⟩
  · refine (pe_callW F hr hg hm kp hb (fun σ => passAt tk σ) ha hdb hst).imp fun σ H Q h => ?_
    unfold rnE at h; simp only [runE] at h
    refine (tG_one (R := rA Z.toGy) h).mono ?_
    rintro vs H1 ⟨al, M, ds, S, r, q⟩
    exact ⟨al, M, ds, S, r, q.slot⟩
theorem mk_sem {k : Nat} {kl : Cl} {ds : List D} {vs : List V} {σ : L2.St} {H : Hp} {al : Am} {M : Store} {Q : VK} (S : Sto Z.toGx H al M) (r : Reps Z.K H al M ds vs)
    (p : Po Z.toGy (rE Z.toGy) W σ H al M Q ((callF Z.P Z.wf n kl.init (.ptr M.length :: ds) (M ++ [.ins k []])).bind fun r M2 => match r with | .non => .ok (.ptr M.length) M2 | _ => .stuck)) :
    ∀ x dx, H x = none → H dx = none → dx ≠ x → spR Z n kl.init (.ref x :: vs) (upd (upd H dx (.own x)) x (.ins (Z.cl k) dx [])) (fun v H2 => v = .non ∧ Q (.ref x) H2) (WE W σ) := by
  intro x dx hx hdx hne
  have s1 : Stp H al M (upd H dx (.own x)) al M := Stp.cold S hdx
  have S1 : Sto Z.toGx (upd H dx (.own x)) al M := S.cold hdx
  have hx1 : upd H dx (.own x) x = none := by rw [upd_ne (Ne.symm hne)]; exact hx
  have s2 : Stp (upd H dx (.own x)) al M (upd (upd H dx (.own x)) x (.ins (Z.cl k) dx [])) (al.add x) (M ++ [.ins k []]) := Stp.alloc S1 hx1
  have S2 : Sto Z.toGx (upd (upd H dx (.own x)) x (.ins (Z.cl k) dx [])) (al.add x) (M ++ [.ins k []]) := S1.alloc hx1 ⟨dx, [], upd_same, rfl, fun p hp => absurd hp (by simp)⟩
  have hget : (al.add x).ad[M.length]? = some x := by rw [← S.len]; simp [Am.add]
  refine ⟨al.add x, M ++ [.ins k []], .ptr M.length :: ds, S2, ?_, ?_⟩
  · refine Reps.cons ?_ (Reps.mono S1 s2 _ _ (Reps.mono S s1 _ _ r))
    rw [Rep]; exact ⟨x, rfl, hget⟩
  · refine (((Po.step p (s1.trans s2)).bind (R := rE Z.toGy)).mono ?_).slot
    rintro v H3 ⟨al3, M3, d, s3, S3, r3, p3⟩
    try dsimp only at p3
    split at p3
    · cases rep_non (X := Z.toGy) r3
      refine ⟨rfl, p3.ok S3 ?_⟩
      show Rep _ _ _ _ _ _
      rw [Rep]; exact ⟨x, rfl, s3.get hget⟩
    · exact p3.elim
theorem z_mk {k : Nat} {kl : Cl} {as : Xps} {es : List Expr} {x : Str} {p : Pos} (g : Good Z c cx n) (tk : Takes cx W) (hk : Z.P.cls[k]? = some kl) (hx : kl.name = x) (hc : c.glb x = true) (hst : es.all noStar = true)
    (hl : (as = .nil ∧ es = []) ∨ ∃ e es', es = e :: es') (ha : PAz Z n cx W as es) : PEz Z n cx W (.mk k as) (.Call (.Name x p) es [] pos) := by
  obtain ⟨hM, j, hj⟩ := g.lnk.mks k kl hk
  obtain ⟨⟨fd, ps, F, hb⟩, kp⟩ := g.lnk.fn kl.init j hj
  have hm := g.lnk.clm k kl hk
  rw [hx] at hm
  obtain ⟨hg, hdb⟩ := g.gl hc
  rcases hl with ⟨rfl, rfl⟩ | ⟨e, es', rfl⟩
  · refine (pe_makeW0 hM F g.room hg hm hb (fun σ => passAt tk σ) hdb).imp fun σ H Q h => ?_
    unfold rnE at h; simp only [runE, runA, bind_ok, hk] at h
    obtain ⟨al, ρ, M, S, E, q⟩ := h
    exact mk_sem S Reps.nil q
  · refine (pe_makeW hM F g.room hg hm hb (fun σ => passAt tk σ) ha hdb hst).imp fun σ H Q h => ?_
    unfold rnE at h; simp only [runE, hk] at h
    refine (tG_one (R := rA Z.toGy) h).mono ?_
    rintro vs H1 ⟨al, M, ds, S, r, q⟩
    exact mk_sem S r q
theorem ins_at {H : Hp} {al : Am} {M : Store} {m k : Nat} {v : V} {fs : List (Nat × D)} (S : Sto Z.toGx H al M) (r : Rep Z.K H al M (.ptr m) v) (e : M[m]? = some (.ins k fs)) :
    ∃ a dx vfs, v = .ref a ∧ al.ad[m]? = some a ∧ H a = some (.ins (Z.cl k) dx vfs) ∧ Fsr Z.nm Z.K H al M fs vfs ∧ (∀ p ∈ fs, p.1 < Z.P.nms.length) ∧ live M m := by
  rw [Rep] at r
  obtain ⟨a, rfl, h1⟩ := r
  obtain ⟨dx, vfs, h2, h3, h4⟩ := S.at_ m _ a e h1
  exact ⟨a, dx, vfs, rfl, h1, h2, h3, h4, ⟨_, e, rfl⟩⟩
theorem z_meth {o : Xp} {m : Nat} {as : Xps} {l : Expr} {es : List Expr} {x : Str} {apos : Pos} (g : Good Z c cx n) (tk : Takes cx W) (hm : c.nmd m x = true) (hb : okBase l = true) (hn : es.length < 30) (hli : (apos.endLine == pos.line) = true) (hst : es.all noStar = true)
    (hl : (as = .nil ∧ es = []) ∨ ∃ e es', es = e :: es') (ho : PEz Z n cx W o l) (ha : PAz Z n cx W as es) : PEz Z n cx W (.meth o m as) (.Call (.Attribute l x apos) es [] pos) := by
  obtain ⟨rfl, hml⟩ := Ck.nmd_of g.P hm
  have hr : Room (2 * n + 1) cx.A := g.room.mono (by omega)
  have key : ∀ {t : TA} {σ : L2.St} {H : Hp} {Q : VK}, (∀ (σ : L2.St) (H1 : Hp) (Q : List V → Hp → Prop), tA Z.toGy W (rnA Z n as) σ H1 Q → t σ H1 Q) → tE Z.toGy W (rnE Z n (.meth o m as)) σ H Q →
      tMethD cx.K cx.prog cx.w cx.mg cx.base (L2.CX cx.prog cx.w) (2 * n + 1) (Z.nm m) (WE W) (tE Z.toGy W (rnE Z n o)) t σ H Q := by
    intro t σ H Q ht h
    unfold rnE at h; simp only [runE] at h
    refine (tG_then (R := rE Z.toGy) (f := rnE Z n o) (g := fun ρ x M1 => match x with
      | .ptr n' => match M1[n']? with
        | some (.ins c fs) => match (Z.P.cls[c]?).bind fun k => findM m k.meths with
          | some g => match getF m fs with
            | none => (rnA Z n as ρ M1).bind fun xs M2 => callF Z.P Z.wf n g (.ptr n' :: xs) M2
            | some _ => .stuck
          | none => .stuck
        | _ => .stuck
      | _ => .stuck) h).mono ?_
    rintro v H1 ⟨al, ρ, M, d, S, E, r1, p⟩
    try dsimp only at p
    split at p
    · rename_i n'
      split at p
      · rename_i kc fs e1
        split at p
        · rename_i gf e2
          split at p
          · rename_i e3
            obtain ⟨kl, hkl, hfm⟩ := Option.bind_eq_some_iff.mp e2
            obtain ⟨a, dx, vfs, rfl, h1, h2, h3, h4, _⟩ := ins_at S r1 e1
            obtain ⟨hM, j, hj⟩ := g.lnk.meth kc kl m gf hkl hfm
            obtain ⟨⟨fd, ps, F, hbd⟩, kp⟩ := g.lnk.fn gf j hj
            have hlk := (Fsr.get g.lnk.nms hml h4 h3).2 e3
            refine ⟨a, _, dx, vfs, _, fd, ps, _, rfl, h2, hlk, g.lnk.cls kc kl hkl, hM, F, hbd, ht σ H1 _ ⟨al, ρ, M, S, E, (Po.bind (R := rA Z.toGy) p).mono ?_⟩⟩
            rintro vs H2 ⟨al2, M2, ds, s2, S2, r2, p2⟩
            exact ⟨al2, M2, .ptr n' :: ds, S2, Reps.cons (Rep.mono S s2 _ _ r1) r2, p2.slot⟩
          · exact p.elim
        · exact p.elim
      · exact p.elim
    · exact p.elim
  rcases hl with ⟨rfl, rfl⟩ | ⟨e, es', rfl⟩
  · refine (pe_methD0 ho hr (fun σ => passAt tk σ) hb hli).imp fun σ H Q h => key (fun σ H1 Q h => ?_) h
    obtain ⟨al, ρ, M, S, E, q⟩ := h
    simp only [rnA, runA] at q
    exact q.ok S Reps.nil
  · exact (pe_methD ho hr (fun σ => passAt tk σ) ha hb hst hn hli).imp fun σ H Q h => key (fun σ H1 Q h => h) h

theorem biN_in : ∀ f : Bi, biN f ∈ blts
  | .len => by simp [biN, blts] | .sum => by simp [biN, blts] | .max1 => by simp [biN, blts] | .max2 => by simp [biN, blts] | .min1 => by simp [biN, blts] | .min2 => by simp [biN, blts] | .abs => by simp [biN, blts] | .int => by simp [biN, blts] | .sorted _ => by simp [biN, blts]
  | .list _ => by simp [biN, blts] | .tuple => by simp [biN, blts] | .any => by simp [biN, blts] | .all => by simp [biN, blts]
theorem pe_callV {f : Bi} {r : List V → Hp → VK → Prop} {x : Str} {e : Expr} {es : List Expr} {t : TA} {p : Pos} (hc : CallR cx (biV f) r) (hg : Gl cx x) (hm : cx.mg x = none) (hv : bootBuiltins x = some (biV f)) (ha : PA cx (e :: es) t) (hn : x ≠ "__name__") (hdb : (x == ("__debug__" : Str)) = false)
    (hs : (e :: es).all noStar = true) : PE cx (.Call (.Name x p) (e :: es) [] pos) (tCB r t) := by
  rw [List.all_cons, Bool.and_eq_true] at hs
  have h1 := starEach_cons (env := cx.env) (es := es) hs.1
  have h2 := star_plain (env := cx.env) (pos := pos) hs.2
  cases f <;> first
    | exact pe_callB hc hg hm hv ha hn hdb h1 h2
    | exact pe_callTy hc hg hm hv ha hn hdb h1 h2
theorem z_bi {f : Bi} {as : Xps} {x : Str} {e : Expr} {es : List Expr} {p : Pos} (g : Good Z c cx n) (hx : x = biN f) (hc : c.blt x = true) (hst : (e :: es).all noStar = true) (ha : PAz Z n cx W as (e :: es)) : PEz Z n cx W (.bi f as) (.Call (.Name x p) (e :: es) [] pos) := by
  subst hx
  obtain ⟨hg, hdb, hnn⟩ := g.bl hc
  refine (pe_callV (cr_rBi g.calm f) hg (g.lnk.blt _ (biN_in f)) (biBoot f) ha hnn hdb hst).imp fun σ H Q h => ?_
  unfold rnE at h; simp only [runE] at h
  refine (tG_one (R := rA Z.toGy) h).mono ?_
  rintro vs H1 ⟨al, M, ds, S, r, q⟩
  rw [g.lnk.K]
  exact bi_sem S r q
theorem z_isi {a : Xp} {t : Ty} {l : Expr} {x y : Str} {p p' : Pos} (g : Good Z c cx n) (hx : x = "isinstance") (hc : c.blt x = true) (hy : y = Str.ofString (tyN t)) (hc' : c.blt y = true) (hst : noStar l = true) (ha : PEz Z n cx W a l) :
    PEz Z n cx W (.isi a t) (.Call (.Name x p) [l, .Name y p'] [] pos) := by
  subst hx hy
  obtain ⟨hg, hdb, hnn⟩ := g.bl hc
  obtain ⟨hg', hdb', hnn'⟩ := g.bl hc'
  have hy : PE cx (.Name (Str.ofString (tyN t)) p') (tC (.ty (tyN t))) := pe_bltn hg' (g.lnk.blt _ (by cases t <;> simp [tyN, blts] <;> decide)) (tyBoot t) rfl hnn' hdb'
  have hA : PA cx [l, .Name (Str.ofString (tyN t)) p'] (tCons (tE Z.toGy W (rnE Z n a)) (tCons (tC (.ty (tyN t))) tNil)) := pa_cons ha (pa_cons hy pa_nil) (starEach_cons hst)
  refine (pe_callB call_isi hg (g.lnk.blt _ (by simp [blts])) (by decide +kernel) hA hnn hdb (starEach_cons hst) rfl).imp fun σ H Q h => ?_
  unfold rnE at h; simp only [runE] at h
  refine (tG_one (R := rE Z.toGy) h).mono ?_
  rintro v H1 ⟨al, M, d, S, r, q⟩
  split at q
  · rename_i b e
    show rIsi cx.K [v, .ty (tyN t)] H1 Q
    rw [g.lnk.K]
    exact isTy_sem S r e (q.ok S bl_rep)
  · exact q.elim
theorem z_fld {o : Xp} {f : Nat} {l : Expr} {x : Str} (g : Good Z c cx n) (hm : c.nmd f x = true) (hb : okBase l = true) (ho : PEz Z n cx W o l) : PEz Z n cx W (.fld o f) (.Attribute l x pos) := by
  obtain ⟨rfl, hml⟩ := Ck.nmd_of g.P hm
  refine (pe_fld ho (okBase_of hb)).imp fun σ H Q h => ?_
  unfold rnE at h; simp only [runE] at h
  refine (tG_one (R := rE Z.toGy) h).mono ?_
  rintro v H1 ⟨al, M, d, S, r1, p⟩
  split at p
  · split at p
    · rename_i kc fs e1
      split at p
      · rename_i hF
        split at p
        · rename_i d' e3
          obtain ⟨a, dx, vfs, rfl, h1, h2, h3, h4, _⟩ := ins_at S r1 e1
          obtain ⟨u, hu, ru⟩ := (Fsr.get g.lnk.nms hml h4 h3).1 _ e3
          unfold hasF at hF
          split at hF
          · rename_i kl hkl
            exact ⟨a, _, dx, vfs, u, rfl, h2, g.lnk.cls kc kl hkl, g.lnk.noat kc kl f hkl (by simpa using hF), hu, p.ok S ru⟩
          · cases hF
        · exact p.elim
      · exact p.elim
    · exact p.elim
  · exact p.elim
theorem z_ix {o i : Xp} {l r : Expr} (g : Good Z c cx n) (hs : noSlice r = true) (ho : PEz Z n cx W o l) (hi : PEz Z n cx W i r) : PEz Z n cx W (.ix o i) (.Subscript l r pos) := (pe_ix (ix_seq.or (ix_dict (by have := g.units; omega))) ho hi (plainIx_of hs)).imp fun σ H Q h => by
  unfold rnE at h; simp only [runE] at h
  refine (tG_two h).mono fun x H1 h1 => h1.mono ?_
  rintro y H2 ⟨al, M, a, b, S, r1, r2, p⟩
  rw [g.lnk.K]
  exact ix_sem S r1 r2 p
theorem z_no : PO cx none (tO Z.toGy W (rnO Z n .no)) := po_none.imp fun σ H Q h => by
  obtain ⟨al, ρ, M, S, E, p⟩ := h
  simp only [rnO, runO] at p
  exact p.ok S rfl
theorem z_so {a : Xp} {e : Expr} (ha : PEz Z n cx W a e) : PO cx (some e) (tO Z.toGy W (rnO Z n (.so a))) := (po_some ha).imp fun σ H Q h => by
  unfold rnO at h; simp only [runO] at h
  refine (tG_one (R := rE Z.toGy) h).mono ?_
  rintro v H1 ⟨al, M, d, S, r, q⟩
  split at q
  · cases rep_int (X := Z.toGy) r; exact ⟨_, rfl, q.ok S rfl⟩
  · exact q.elim
theorem z_sl {o : Xp} {lo hi : Op} {l : Expr} {lo' hi' : Option Expr} {p2 : Pos} (g : Good Z c cx n) (ho : PEz Z n cx W o l) (hl : PO cx lo' (tO Z.toGy W (rnO Z n lo))) (hh : PO cx hi' (tO Z.toGy W (rnO Z n hi))) : PEz Z n cx W (.sl o lo hi) (.Subscript l (.Slice lo' hi' none p2) pos) :=
  (pe_slice sl_ok ho hl hh).imp fun σ H Q h => by
    unfold rnE at h; simp only [runE] at h
    refine (tG_then (R := rE Z.toGy) (f := rnE Z n o) (g := fun ρ x M1 => (rnO Z n lo ρ M1).bind fun l M2 => (rnO Z n hi ρ M2).bind fun h M3 => sld M3 x l h) h).mono ?_
    rintro x H1 ⟨al, ρ, M, d, S, E, r1, p⟩
    refine ⟨al, ρ, M, S, E, (Po.bind (R := rId) p).mono ?_⟩
    rintro l' H2 ⟨al2, M2, l2, s2, S2, e2, p2⟩
    cases e2
    refine ⟨al2, ρ, M2, S2, E.mono S s2, (Po.bind (R := rId) p2).mono ?_⟩
    rintro h' H3 ⟨al3, M3, h2, s3, S3, e3, p3⟩
    cases e3
    rw [g.lnk.K]
    exact sl_sem S3 (Rep.mono S (s2.trans s3) _ _ r1) p3
theorem z_tup {as : Xps} {es : List Expr} {k : Nat} (ha : PAz Z n cx W as es) : PEz Z n cx W (.tup as) (.Tuple es k pos) := (pe_tup ha).imp fun σ H Q h => by
  unfold rnE at h; simp only [runE] at h
  refine (tG_one (R := rA Z.toGy) h).mono ?_
  rintro vs H1 ⟨al, M, ds, S, r, q⟩
  have hl := Reps.length r
  split at q
  · rename_i hz
    exact ⟨by rw [hl]; exact hz, fun p hp => Po.newT S r hp q⟩
  · exact q.elim
theorem z_lst {hot : Bool} {as : Xps} {es : List Expr} (ha : PAz Z n cx W as es) : PEz Z n cx W (.lst hot as) (.List es pos) := (pe_lst ha).imp fun σ H Q h => by
  unfold rnE at h; simp only [runE] at h
  refine (tG_one (R := rA Z.toGy) h).mono ?_
  rintro vs H1 ⟨al, M, ds, S, r, q⟩
  have hl := Reps.length r
  split at q
  · rename_i hz
    exact ⟨by rw [hl]; exact hz, fun p hp => Po.newL S r hp q⟩
  · exact q.elim
theorem z_frz {a : Xp} {e : Expr} (ha : PEz Z n cx W a e) : PEz Z n cx W (.frz a) e := ha.imp fun σ H Q h => by
  unfold rnE at h; simp only [runE] at h
  refine (tG_one (R := rE Z.toGy) h).mono ?_
  rintro v H1 ⟨al, M, d, S, r, q⟩
  split at q
  · rename_i m
    split at q
    · rename_i xs e1
      obtain ⟨a, vs, rfl, h1, h2, h3, l⟩ := ptr_at S r e1
      refine q al H1 _ (Stp.drop l) (S.drop l) ?_
      show Rep _ _ _ _ _ _
      rw [Rep]
      exact ⟨a, vs, rfl, h2, S.cold_of_drop l h1, Reps.mono S (Stp.drop l) _ _ h3⟩
    · exact q.elim
  · exact q.ok S r
theorem z_lrg {hot : Bool} {a : Xp} {l : Expr} {x y : Str} {p p' p2 : Pos} (g : Good Z c cx n) (hx : x = "list") (hc : c.blt x = true) (hy : y = "range") (hc' : c.blt y = true) (hst : noStar l = true) (ha : PEz Z n cx W a l) : PEz Z n cx W (.lrg hot a) (.Call (.Name x p) [.Call (.Name y p') [l] [] p2] [] pos) := by
  subst hx hy
  obtain ⟨hg, _, _⟩ := g.bl hc
  obtain ⟨hg', _, _⟩ := g.bl hc'
  refine (pe_listRg g.calm hg (g.lnk.blt _ (by simp [blts])) (prg_1 hg' (g.lnk.blt _ (by simp [blts])) ha (starEach_cons hst)) rfl).imp fun σ H Q h => ?_
  unfold rnE at h; simp only [runE] at h
  refine (tG_one (R := rE Z.toGy) h).mono ?_
  rintro v H1 ⟨al, M, d, S, r, q⟩
  split at q
  · rename_i i
    cases rep_int (X := Z.toGy) r
    split at q
    · rename_i hk
      refine ⟨i, rfl, ⟨by omega, by omega, by omega, by omega, by omega⟩, fun p hp => ?_⟩
      have e1 : rngOf 0 i = ((List.range (i - 0).toNat).map fun (j : Nat) => (0 + (j : Int))).map G.D.int := by unfold rngOf; rw [List.map_map]; rfl
      have e2 : rgV 0 i = ((List.range (i - 0).toNat).map fun (j : Nat) => (0 + (j : Int))).map V.int := by unfold rgV; rw [List.map_map]; rfl
      rw [e2]
      exact Po.newL S (by rw [e1]; exact Reps.of_ints _) hp q
    · exact q.elim
  · exact q.elim
theorem rg_reps {X : Gy} {H : Hp} {al : Am} {M : Store} (i j : Int) : Reps X.K H al M (rngOf i j) (rgV i j) := by
  have e1 : rngOf i j = ((List.range (j - i).toNat).map fun (k : Nat) => (i + (k : Int))).map G.D.int := by unfold rngOf; rw [List.map_map]; rfl
  have e2 : rgV i j = ((List.range (j - i).toNat).map fun (k : Nat) => (i + (k : Int))).map V.int := by unfold rgV; rw [List.map_map]; rfl
  rw [e1, e2]
  exact Reps.of_ints _
theorem rg_ok {i j : Int} (h : rngOk i j = true ∧ j - i ≤ 16777216) : RgOk i j := by
  obtain ⟨h1, h2⟩ := h
  unfold rngOk at h1
  simp only [Bool.and_eq_true, decide_eq_true_eq] at h1
  exact ⟨by omega, by omega, by omega, by omega, by omega⟩
theorem z_lrg2 {hot : Bool} {a b : Xp} {l r : Expr} {x y : Str} {p p' p2 : Pos} (g : Good Z c cx n) (hx : x = "list") (hc : c.blt x = true) (hy : y = "range") (hc' : c.blt y = true) (hst : noStar l = true) (hst' : noStar r = true) (ha : PEz Z n cx W a l) (hb : PEz Z n cx W b r) : PEz Z n cx W (.lrg2 hot a b) (.Call (.Name x p) [.Call (.Name y p') [l, r] [] p2] [] pos) := by
  subst hx hy
  obtain ⟨hg, _, _⟩ := g.bl hc
  obtain ⟨hg', _, _⟩ := g.bl hc'
  refine (pe_listRg g.calm hg (g.lnk.blt _ (by simp [blts])) (prg_2 hg' (g.lnk.blt _ (by simp [blts])) ha hb (starEach_cons hst) (starEach_cons hst') (star_plain (by simp [hst']))) rfl).imp fun σ H Q h => ?_
  unfold rnE at h; simp only [runE] at h
  refine (tG_two h).mono fun u H1 h1 => h1.mono ?_
  rintro w H2 ⟨al, M, d, e, S, r1, r2, q⟩
  split at q
  · rename_i i j
    cases rep_int (X := Z.toGy) r1
    cases rep_int (X := Z.toGy) r2
    split at q
    · rename_i hk
      exact ⟨i, j, rfl, rfl, rg_ok hk, fun p hp => Po.newL S (rg_reps i j) hp q⟩
    · exact q.elim
  · exact q.elim
theorem z_trg {a : Xp} {l : Expr} {x y : Str} {p p' p2 : Pos} (g : Good Z c cx n) (hx : x = "tuple") (hc : c.blt x = true) (hy : y = "range") (hc' : c.blt y = true) (hst : noStar l = true) (ha : PEz Z n cx W a l) : PEz Z n cx W (.trg a) (.Call (.Name x p) [.Call (.Name y p') [l] [] p2] [] pos) := by
  subst hx hy
  obtain ⟨hg, _, _⟩ := g.bl hc
  obtain ⟨hg', _, _⟩ := g.bl hc'
  refine (pe_tupRg g.calm hg (g.lnk.blt _ (by simp [blts])) (prg_1 hg' (g.lnk.blt _ (by simp [blts])) ha (starEach_cons hst)) rfl).imp fun σ H Q h => ?_
  unfold rnE at h; simp only [runE] at h
  refine (tG_one (R := rE Z.toGy) h).mono ?_
  rintro v H1 ⟨al, M, d, S, r, q⟩
  split at q
  · rename_i i
    cases rep_int (X := Z.toGy) r
    split at q
    · rename_i hk
      exact ⟨i, rfl, ⟨by omega, by omega, by omega, by omega, by omega⟩, fun p hp => Po.newT S (rg_reps 0 i) hp q⟩
    · exact q.elim
  · exact q.elim
theorem z_trg2 {a b : Xp} {l r : Expr} {x y : Str} {p p' p2 : Pos} (g : Good Z c cx n) (hx : x = "tuple") (hc : c.blt x = true) (hy : y = "range") (hc' : c.blt y = true) (hst : noStar l = true) (hst' : noStar r = true) (ha : PEz Z n cx W a l) (hb : PEz Z n cx W b r) : PEz Z n cx W (.trg2 a b) (.Call (.Name x p) [.Call (.Name y p') [l, r] [] p2] [] pos) := by
  subst hx hy
  obtain ⟨hg, _, _⟩ := g.bl hc
  obtain ⟨hg', _, _⟩ := g.bl hc'
  refine (pe_tupRg g.calm hg (g.lnk.blt _ (by simp [blts])) (prg_2 hg' (g.lnk.blt _ (by simp [blts])) ha hb (starEach_cons hst) (starEach_cons hst') (star_plain (by simp [hst']))) rfl).imp fun σ H Q h => ?_
  unfold rnE at h; simp only [runE] at h
  refine (tG_two h).mono fun u H1 h1 => h1.mono ?_
  rintro w H2 ⟨al, M, d, e, S, r1, r2, q⟩
  split at q
  · rename_i i j
    cases rep_int (X := Z.toGy) r1
    cases rep_int (X := Z.toGy) r2
    split at q
    · rename_i hk
      exact ⟨i, j, rfl, rfl, rg_ok hk, fun p hp => Po.newT S (rg_reps i j) hp q⟩
    · exact q.elim
  · exact q.elim
/-- a new dict -/
theorem Po.newD {X : Gy} {W : WX} {σ : L2.St} {H : Hp} {al : Am} {M : Store} {Q : VK} {tk : Bool} {u : HO} {p : Addr} (S : Sto X.toGx H al M) (r : Dcr tk X.K H al M [] u) (hp : H p = none) (h : Po X (G.rE X) W σ H al M Q (.ok (.ptr M.length) (M ++ [.dic tk []]))) : Q (.ref p) (upd H p u) := by
  have s : Stp H al M (upd H p u) (al.add p) (M ++ [.dic tk []]) := Stp.alloc S hp
  refine h _ _ _ s (S.alloc hp ⟨u, upd_same, r.mono S s⟩) ?_
  show Rep _ _ _ _ _ _
  rw [Rep]
  exact ⟨p, rfl, by rw [← S.len]; simp [Am.add]⟩
theorem z_dnew {tk : Bool} (g : Good Z c cx n) : PEz Z n cx W (.dnew tk) (.Dict [] [] pos) := by
  cases tk with
  | false =>
    refine pe_dnewK.imp fun σ H Q h => ?_
    obtain ⟨al, ρ, M, S, E, p⟩ := h
    simp only [rnE, runE] at p
    exact fun q hq => Po.newD (tk := false) S (show ∃ xs, _ from ⟨[], rfl, rfl⟩) hq p
  | true =>
    refine pe_dnewT.imp fun σ H Q h => ?_
    obtain ⟨al, ρ, M, S, E, p⟩ := h
    simp only [rnE, runE] at p
    exact fun q hq => Po.newD (tk := true) S (show ∃ xs, _ from ⟨[], rfl, rfl⟩) hq p
theorem z_bm {f : Bm} {o : Xp} {as : Xps} {l : Expr} {es : List Expr} {x : Str} {apos : Pos} (g : Good Z c cx n) (hx : x = bmN f) (hb : okBase l = true) (hn : es.length < 30) (hli : (apos.endLine == pos.line) = true) (hst : es.all noStar = true)
    (hl : (as = .nil ∧ es = [] ∧ f = .pop) ∨ ∃ e es', es = e :: es' ∧ f ≠ .pop) (ho : PEz Z n cx W o l) (ha : PAz Z n cx W as es) : PEz Z n cx W (.bm f o as) (.Call (.Attribute l x apos) es [] pos) := by
  subst hx
  have key : ∀ {t : TA} {σ : L2.St} {H : Hp} {Q : VK}, (∀ (σ : L2.St) (H1 : Hp) (Q : List V → Hp → Prop), tA Z.toGy W (rnA Z n as) σ H1 Q → t σ H1 Q) → tE Z.toGy W (rnE Z n (.bm f o as)) σ H Q →
      tE Z.toGy W (rnE Z n o) σ H (fun x H1 => tyV cx.K "list" x H1 ∧ t σ H1 fun xs H2 => rBm cx.K f x xs H2 Q) := by
    intro t σ H Q ht h
    unfold rnE at h; simp only [runE] at h
    refine (tG_then (R := rE Z.toGy) (f := rnE Z n o) (g := fun ρ x M1 => match (listOf M1 x).isSome with
      | true => (rnA Z n as ρ M1).bind fun xs M2 => bmrun f x xs M2
      | false => .stuck) h).mono ?_
    rintro v H1 ⟨al, ρ, M, d, S, E, r1, p⟩
    try dsimp only at p
    split at p
    · rename_i hs
      obtain ⟨ds, eds⟩ := Option.isSome_iff_exists.mp hs
      obtain ⟨a, vs, rfl, h1, h2⟩ := listOf_at S r1 eds
      refine ⟨.inl ⟨rfl, vs, SqL.of h1⟩, ht σ H1 _ ⟨al, ρ, M, S, E, (Po.bind (R := rA Z.toGy) p).mono ?_⟩⟩
      rintro ws H2 ⟨al2, M2, es', s2, S2, r2, p2⟩
      rw [g.lnk.K]
      exact bm_sem S2 (Rep.mono S s2 _ _ r1) r2 p2
    · exact p.elim
  rcases hl with ⟨rfl, rfl, rfl⟩ | ⟨e, es', rfl, hf⟩
  · refine (pe_bm0 PySem.F.plainAttrs_list PySem.F.slot_list_pop PySem.F.type_list_pop mt_pop ho (okBase_of hb) hli).imp fun σ H Q h => key (t := tNil) (fun σ H1 Q h => ?_) h
    obtain ⟨al, ρ, M, S, E, q⟩ := h
    simp only [rnA, runA] at q
    exact q.ok S Reps.nil
  · have hst' := hst
    rw [List.all_cons, Bool.and_eq_true] at hst'
    have h1 := starEach_cons (env := cx.env) (es := es') hst'.1
    have h2 := star_plain (env := cx.env) (pos := pos) hst'.2
    cases f with
    | append => exact (pe_bm PySem.F.plainAttrs_list PySem.F.slot_list_append PySem.F.type_list_append mt_append ho ha (okBase_of hb) (few_of hst hn) hli h1 h2).imp fun σ H Q h => key (fun σ H1 Q h => h) h
    | popAt => exact (pe_bm PySem.F.plainAttrs_list PySem.F.slot_list_pop PySem.F.type_list_pop mt_popAt ho ha (okBase_of hb) (few_of hst hn) hli h1 h2).imp fun σ H Q h => key (fun σ H1 Q h => h) h
    | pop => exact absurd rfl hf
    | index => exact (pe_bm PySem.F.plainAttrs_list PySem.F.slot_list_index PySem.F.type_list_index mt_index ho ha (okBase_of hb) (few_of hst hn) hli h1 h2).imp fun σ H Q h => key (fun σ H1 Q h => h) h
end
end G

/-! GIt -/
set_option maxRecDepth 100000
set_option maxHeartbeats 4000000
namespace L2
open PySem PySem.Spec PyProof.Rows
theorem PG.imp {cx : Cx} {e : Expr} {t t' : TG} (h : PG cx e t) (i : ∀ v σ H Q, t' v σ H Q → t v σ H Q) : PG cx e t' := ⟨fun pins s σ H v u Q I r q => h.run pins s σ H v u Q I r (i v σ H Q q)⟩
theorem PG.or {cx : Cx} {e : Expr} {t t' : TG} (h : PG cx e t) (h' : PG cx e t') : PG cx e (fun v σ H Q => t v σ H Q ∨ t' v σ H Q) := ⟨fun pins s σ H v u Q I r q => by
  rcases q with q | q
  · exact h.run pins s σ H v u Q I r q
  · exact h'.run pins s σ H v u Q I r q⟩
theorem PI.imp {cx : Cx} {tg e : Expr} {t t' : TI} (h : PI cx tg e t) (i : ∀ σ H R, t' σ H R → t σ H R) : PI cx tg e t' := ⟨fun pins s σ H R I q => h.run pins s σ H R I (i σ H R q)⟩
/-- a list or a tuple is walked -/
def iVal (K : PySem.W.Frag) (tl : TE) : TI := fun σ H R => tl σ H fun x H1 => ∃ a, x = .ref a ∧ (((∃ xs, SqL K H1 a xs) ∧ R (Itl K a) H1) ∨ ((∃ xs, SqT K H1 a xs) ∧ R (Itt K a) H1))
theorem pi_val {X : Cx} {tg l : Expr} {tl : TE} (hl : PE X l tl) : PI X tg l (iVal X.K tl) := by
  refine ⟨fun pins s σ H R I h => ?_⟩
  refine thn (hl.run pins s σ H _ I h) fun v s1 ⟨x, H1, I1, r1, q1⟩ => ?_
  obtain ⟨a, e, ⟨⟨xs, hq⟩, q⟩ | ⟨⟨xs, hq⟩, q⟩⟩ := q1
  · subst e
    cases r1
    obtain ⟨its, rv, p, hz⟩ := I1.list hq
    refine wpAny_pyIter_list p.isList ?_
    refine ⟨s1.heap.objs.size, [s1.heap.objs.size], _, _, H1, rfl, I1.kept (t' := s1.toks) fun b o e => Heap.get?_push_of_some _ e, turn_list a _, ⟨_, Heap.get?_push_size _ rfl, rfl, rfl⟩, fun b hb => ?_, q⟩
    have e : b = s1.heap.objs.size := by simpa using hb
    subst e
    exact I1.fpOk (Nat.le_refl _) (I1.hok.fresh (Nat.le_refl _))
  · subst e
    cases r1
    obtain ⟨its, rv, p, hz⟩ := I1.tuple hq
    refine wpAny_pyIter_tuple (show s1.heap.IsTuple a its.toArray from p) ?_
    refine ⟨s1.heap.objs.size, [s1.heap.objs.size], _, _, H1, rfl, I1.kept (t' := s1.toks) fun b o e => Heap.get?_push_of_some _ e, turn_tuple a _, ⟨_, Heap.get?_push_size _ rfl, rfl, rfl⟩, fun b hb => ?_, q⟩
    have e : b = s1.heap.objs.size := by simpa using hb
    subst e
    exact I1.fpOk (Nat.le_refl _) (I1.hok.fresh (Nat.le_refl _))

theorem wipe_get {σ : L2.St} {j : Nat} : ∀ {vs : List Nat}, (wipe σ vs)[j]? = if j ∈ vs ∧ j < σ.length then some none else σ[j]?
  | [] => by simp [wipe]
  | v :: vs => by
    rw [wipe]
    by_cases hv : v = j
    · subst hv
      by_cases hl : v < σ.length
      · rw [List.getElem?_set_self (by rw [wipe_length]; exact hl), if_pos ⟨List.mem_cons_self, hl⟩]
      · rw [List.getElem?_eq_none (by rw [List.length_set, wipe_length]; omega), if_neg (fun q => hl q.2), List.getElem?_eq_none (by omega)]
    · rw [List.getElem?_set_ne hv, wipe_get]
      have : j ∈ v :: vs ↔ j ∈ vs := by rw [List.mem_cons]; constructor; (intro h; rcases h with h | h; exact absurd h.symm hv; exact h); exact Or.inr
      simp only [this]
theorem wipe_set {σ : L2.St} {i : Nat} {o : Option V} {vs : List Nat} (h : i ∈ vs) : wipe (σ.set i o) vs = wipe σ vs := by
  apply List.ext_getElem?
  intro j
  rw [wipe_get, wipe_get, List.length_set]
  by_cases hj : i = j
  · subst hj
    by_cases hl : i < σ.length
    · rw [if_pos ⟨h, hl⟩, if_pos ⟨h, hl⟩]
    · rw [if_neg (fun q => hl q.2), if_neg (fun q => hl q.2), List.getElem?_eq_none (by rw [List.length_set]; omega), List.getElem?_eq_none (by omega)]
  · rw [List.getElem?_set_ne hj]
end L2
namespace G
open PySem PySem.Spec PyProof.Rows L2

def tGp (Z : Gz) (g : Gp) : TG := fun v σ H Q => ∃ al ρ M d ρ', Sto Z.toGx H al M ∧ Envr Z.K H al M σ ρ ∧ Rep Z.K H al M d v ∧ bindG g d ρ = some ρ' ∧
  ∀ σ', Envr Z.K H al M σ' ρ' → wipe σ' (gslots g) = wipe σ (gslots g) → Q σ' H
def setAll (is : List Nat) (vs : List V) (σ : L2.St) : L2.St := (is.zip vs).foldl (fun σ p => σ.set p.1 (some p.2)) σ
def gNames : List Nat → TGs
  | [] => gNil
  | i :: is => gCons (gName i) (gNames is)
theorem gNames_sem : ∀ {is : List Nat} {vs : List V} {σ : L2.St} {H : Hp} {Q : L2.St → Hp → Prop}, vs.length = is.length → Q (setAll is vs σ) H → gNames is vs σ H Q
  | [], vs, σ, H, Q, hl, h => ⟨List.eq_nil_of_length_eq_zero hl, by
      have : vs = [] := List.eq_nil_of_length_eq_zero hl
      subst this; exact h⟩
  | i :: is, [], σ, H, Q, hl, h => by cases hl
  | i :: is, v :: vs, σ, H, Q, hl, h => ⟨v, vs, rfl, gNames_sem (by simpa using hl) h⟩
theorem setAll_wipe {vs : List Nat} : ∀ {is : List Nat} {us : List V} {σ : L2.St}, (∀ i ∈ is, i ∈ vs) → wipe (setAll is us σ) vs = wipe σ vs
  | [], us, σ, _ => rfl
  | i :: is, [], σ, _ => rfl
  | i :: is, u :: us, σ, h => by
    show wipe (setAll is us (σ.set i (some u))) vs = _
    rw [setAll_wipe fun j hj => h j (List.mem_cons_of_mem _ hj), wipe_set (h i List.mem_cons_self)]
theorem setAll_env {K : PySem.W.Frag} {H : Hp} {al : Am} {M : Store} : ∀ {is : List Nat} {ds : List D} {us : List V} {σ : L2.St} {ρ : Rho}, Envr K H al M σ ρ → Reps K H al M ds us →
    Envr K H al M (setAll is us σ) ((is.zip ds).foldl (fun ρ p => ρ.set p.1 (some p.2)) ρ)
  | [], ds, us, σ, ρ, E, r => E
  | i :: is, [], us, σ, ρ, E, r => by rw [Reps] at r; subst r; exact E
  | i :: is, d :: ds, us, σ, ρ, E, r => by
    rw [Reps] at r
    obtain ⟨u, us', e, h1, h2⟩ := r
    subst e
    exact setAll_env (is := is) (E.set h1 i) h2
section
variable {Z : Gz} {n : Nat} {cx : Cx} {c : Ck} {W : WX} {pos : Pos}
theorem Ck.tgt_of (g : Good Z c cx n) {i : Nat} {x : Str} (h : c.tgt i x = true) : cx.N[i]? = some x ∧ L2.Loc cx.env.scope x ∧ (cx.fn x = true ∨ cx.env.scope.names.lookup x = some .local) := by
  unfold Ck.tgt at h
  simp only [Bool.and_eq_true, decide_eq_true_eq, Bool.or_eq_true] at h
  obtain ⟨⟨h1, h2⟩, h3⟩ := h
  rw [g.N]
  refine ⟨h1, g.loc h2, ?_⟩
  rcases h3 with h3 | h3
  · exact .inl (by rw [g.fn]; exact h3)
  · refine .inr ?_
    rw [g.sc]
    split at h3
    · assumption
    · cases h3
theorem Ck.names_of (g : Good Z c cx n) : ∀ {is : List Nat} {es : List Expr}, chkGs c is es = true → PGs cx es (gNames is) ∧ (assignEach es cx.env).length = is.length ∧ (assignEach es cx.env).findIdx? (·.1) = none
  | [], [], _ => ⟨pgs_nil, rfl, rfl⟩
  | [], _ :: _, h => by cases h
  | i :: is, [], h => by cases h
  | i :: is, e :: es, h => by
    cases e with
    | Name x p =>
      have h' : (c.tgt i x && chkGs c is es) = true := h
      rw [Bool.and_eq_true] at h'
      obtain ⟨h1, h2, h3⟩ := Ck.tgt_of g h'.1
      obtain ⟨i1, i2, i3⟩ := Ck.names_of g h'.2
      refine ⟨pgs_cons (pg_name (by rw [g.N]; exact g.nd) h1 h2 h3) i1 rfl, ?_, ?_⟩
      · show (assignEach es cx.env).length + 1 = _
        rw [i2]; rfl
      · show List.findIdx? (·.1) ((false, _) :: assignEach es cx.env) = none
        rw [List.findIdx?_cons, i3]; rfl
    | _ => cases h
theorem z_tgt (g : Good Z c cx n) {gp : Gp} {tg : Expr} (h : chkG c gp tg = true) : PG cx tg (tGp Z gp) := by
  cases gp with
  | n i =>
    cases tg with
    | Name x p =>
      obtain ⟨h1, h2, h3⟩ := Ck.tgt_of g (show c.tgt i x = true from h)
      refine (pg_name (by rw [g.N]; exact g.nd) h1 h2 h3).imp fun v σ H Q hh => ?_
      obtain ⟨al, ρ, M, d, ρ', S, E, r, e, k⟩ := hh
      simp only [bindG, Option.some.injEq] at e
      subst e
      exact k _ (E.set r i) (wipe_set List.mem_cons_self)
    | _ => cases h
  | t is =>
    cases tg with
    | Tuple es k p =>
      obtain ⟨i1, i2, i3⟩ := Ck.names_of g (show chkGs c is es = true from h)
      refine ((pg_tup (k := k) g.calm i1 i2 i3).or (pg_lst (k := k) g.calm i1 i2 i3)).imp fun v σ H Q hh => ?_
      obtain ⟨al, ρ, M, d, ρ', S, E, r, e, kk⟩ := hh
      cases d with
      | tup ds =>
        simp only [bindG] at e
        split at e
        · rename_i hl
          cases e
          obtain ⟨a, vs, rfl, h1, h2⟩ := tup_at (X := Z.toGy) r
          have hvl : vs.length = is.length := by rw [h2.length]; exact hl
          exact .inl ⟨a, vs, rfl, SqT.of h1, hvl, gNames_sem hvl (kk _ (setAll_env E h2) (setAll_wipe fun _ h => h))⟩
        · cases e
      | lst ds =>
        simp only [bindG] at e
        split at e
        · rename_i hl
          cases e
          obtain ⟨a, vs, rfl, h1, h2⟩ := listOf_at (X := Z.toGy) S r (ds := ds) rfl
          have hvl : vs.length = is.length := by rw [h2.length]; exact hl
          exact .inr ⟨a, vs, rfl, SqL.of h1, hvl, gNames_sem hvl (kk _ (setAll_env E h2) (setAll_wipe fun _ h => h))⟩
        · cases e
      | _ => simp [bindG] at e
    | _ => cases h

def rI (Z : Gz) : Rl Wk It := fun H al M k J => match k with
  | .items xs => (∃ a d, J = Itl Z.K a ∧ Rep Z.K H al M d (.ref a) ∧ (d = .lst xs ∨ ∃ ns, d = .scr ns ∧ xs = ns.map D.int)) ∨ (∃ a, J = Itt Z.K a ∧ Rep Z.K H al M (.tup xs) (.ref a)) ∨
      (∃ lo k, J = Itr lo k ∧ xs = (List.range k).map fun (i : Nat) => D.int (lo + (i : Int))) ∨ (∃ (d : Addr) (o : Obj) (kvs : List (Key × V)), J = Itk d o kvs ∧ H d = some (.frz o (.dK kvs)) ∧ xs = kvs.map fun p => kD p.1) ∨
      ∃ (d : Addr) (o : Obj) (kvs : List (List Key × V)), J = Itkt d o kvs ∧ H d = some (.frz o (.dT kvs)) ∧ xs = kvs.map fun p => tD p.1
  | .hot m => ∃ a, J = Itl Z.K a ∧ al.ad[m]? = some a
noncomputable abbrev rnI (Z : Gz) (n : Nat) (x : Ip) : Rho → Store → Res Wk := fun ρ M => runI Z.P Z.wf (callF Z.P Z.wf n) ρ x M
abbrev tI (Z : Gz) (W : WX) (f : Rho → Store → Res Wk) : TI := tG Z.toGy (rI Z) W f
theorem z_ival {a : Xp} {e tg : Expr} (g : Good Z c cx n) (ha : PEz Z n cx W a e) : PI cx tg e (tI Z W (rnI Z n (.val a))) := (pi_val ha).imp fun σ H Q h => by
  unfold rnI at h; simp only [runI] at h
  refine (tG_one (R := rE Z.toGy) h).mono ?_
  rintro v H1 ⟨al, M, d, S, r, q⟩
  rw [g.lnk.K]
  have r' : Rep Z.K H1 al M d v := r
  cases d with
  | lst xs =>
    obtain ⟨a, vs, rfl, h1, h2⟩ := listOf_at (X := Z.toGy) S r' (ds := xs) rfl
    exact ⟨a, rfl, .inl ⟨⟨vs, SqL.of h1⟩, q.ok S (.inl ⟨a, _, rfl, r', .inl rfl⟩)⟩⟩
  | tup xs =>
    obtain ⟨a, vs, rfl, h1, h2⟩ := tup_at (X := Z.toGy) r'
    exact ⟨a, rfl, .inr ⟨⟨vs, SqT.of h1⟩, q.ok S (.inr (.inl ⟨a, rfl, r'⟩))⟩⟩
  | scr ns =>
    have r2 := r'
    rw [Rep] at r2
    obtain ⟨a, rfl, h1⟩ := r2
    exact ⟨a, rfl, .inl ⟨⟨_, h1.sq⟩, q.ok S (.inl ⟨a, _, rfl, r', .inr ⟨ns, rfl, rfl⟩⟩)⟩⟩
  | ptr m =>
    simp only [walkOf] at q
    split at q
    · rename_i k e2
      split at e2
      · rename_i xs e1
        cases e2
        obtain ⟨a, vs, rfl, h0, h1, h2, _⟩ := ptr_at (X := Z.toGy) S r' e1
        exact ⟨a, rfl, .inl ⟨⟨vs, SqL.of h1⟩, q.ok S ⟨a, rfl, h0⟩⟩⟩
      · cases e2
    · exact q.elim
  | non => exact q.elim
  | bl b => exact q.elim
  | int i => exact q.elim
  | str x => exact q.elim
theorem rng_of {i j : Int} (h : rngOk i j = true) : -(2 ^ 62) ≤ i ∧ i < 2 ^ 62 ∧ -(2 ^ 62) ≤ j ∧ j < 2 ^ 62 := by
  unfold rngOk at h
  simp only [Bool.and_eq_true, decide_eq_true_eq] at h
  omega
theorem z_rng1 {a : Xp} {e tg : Expr} {x : Str} {p : Pos} (g : Good Z c cx n) (hx : x = "range") (hc : c.blt x = true) (hst : noStar e = true) (ha : PEz Z n cx W a e) : PI cx tg (.Call (.Name x p) [e] [] pos) (tI Z W (rnI Z n (.rng1 a))) := by
  subst hx
  obtain ⟨hg, _, _⟩ := g.bl hc
  have h1 := starEach_cons (env := cx.env) (es := []) hst
  refine (pi_range1 hg (g.lnk.blt _ (by simp [blts])) (pa_cons ha pa_nil h1) h1).imp fun σ H Q h => ?_
  unfold rnI at h; simp only [runI] at h
  refine (tG_one (R := rE Z.toGy) h).mono ?_
  rintro v H1 ⟨al, M, d, S, r, q⟩
  split at q
  · rename_i i
    cases rep_int (X := Z.toGy) r
    split at q
    · rename_i hk
      obtain ⟨_, _, h3, h4⟩ := rng_of hk
      refine ⟨i, rfl, h3, h4, q.ok S (.inr (.inr (.inl ⟨0, i.toNat, rfl, ?_⟩)))⟩
      unfold rngOf
      rw [Int.sub_zero]
    · exact q.elim
  · exact q.elim
theorem z_rng2 {a b : Xp} {e e' tg : Expr} {x : Str} {p : Pos} (g : Good Z c cx n) (hx : x = "range") (hc : c.blt x = true) (hst : noStar e = true) (hst' : noStar e' = true) (ha : PEz Z n cx W a e) (hb : PEz Z n cx W b e') : PI cx tg (.Call (.Name x p) [e, e'] [] pos) (tI Z W (rnI Z n (.rng2 a b))) := by
  subst hx
  obtain ⟨hg, _, _⟩ := g.bl hc
  have h2 := starEach_cons (env := cx.env) (es := []) hst'
  have h1 := starEach_cons (env := cx.env) (es := [e']) hst
  refine (pi_range2 hg (g.lnk.blt _ (by simp [blts])) (pa_cons ha (pa_cons hb pa_nil h2) h1) (by rw [h1, h2]; rfl) h2).imp fun σ H Q h => ?_
  unfold rnI at h; simp only [runI] at h
  refine (tG_two h).mono fun x H1 h1 => h1.mono ?_
  rintro y H2 ⟨al, M, a, b, S, r1, r2, q⟩
  split at q
  · rename_i i j
    cases rep_int (X := Z.toGy) r1
    cases rep_int (X := Z.toGy) r2
    split at q
    · rename_i hk
      refine ⟨i, j, rfl, rng_of hk, q.ok S (.inr (.inr (.inl ⟨i, (j - i).toNat, rfl, rfl⟩)))⟩
    · exact q.elim
  · exact q.elim
theorem rI.mono {H H' : Hp} {al al' : Am} {M M' : Store} {k : Wk} {J : It} (S : Sto Z.toGx H al M) (s : Stp H al M H' al' M') (h : rI Z H al M k J) : rI Z H' al' M' k J := by
  cases k with
  | items xs =>
    rcases h with ⟨a, d, e, r, q⟩ | ⟨a, e, r⟩ | h | ⟨d, o, kvs, e, h, q⟩ | ⟨d, o, kvs, e, h, q⟩
    · exact .inl ⟨a, d, e, Rep.mono S s _ _ r, q⟩
    · exact .inr (.inl ⟨a, e, Rep.mono S s _ _ r⟩)
    · exact .inr (.inr (.inl h))
    · exact .inr (.inr (.inr (.inl ⟨d, o, kvs, e, s.keep d _ h (S.frz_nothot h) (fun _ h => by cases h), q⟩)))
    · exact .inr (.inr (.inr (.inr ⟨d, o, kvs, e, s.keep d _ h (S.frz_nothot h) (fun _ h => by cases h), q⟩)))
  | hot m =>
    obtain ⟨a, e, h⟩ := h
    exact ⟨a, e, s.get h⟩
/-- the walk's turns, by its items -/
theorem seqL_uniq {H : Hp} {a : Addr} {vs : List V} (h : H a = some (.lst vs)) : ∀ {i : Nat} {x : V}, (∀ xs, SqL Z.K H a xs → xs[i]? = some x) → vs[i]? = some x := fun q => q vs (SqL.of h)
theorem rI_stop {H : Hp} {al : Am} {M : Store} {xs : List D} {J : It} {i : Nat} (S : Sto Z.toGx H al M) (h : rI Z H al M (.items xs) J) (hi : xs.length ≤ i) : J.stop i H := by
  rcases h with ⟨a, d, rfl, r, rfl | ⟨ns, rfl, rfl⟩⟩ | ⟨a, rfl, r⟩ | ⟨lo, k, rfl, rfl⟩ | ⟨d, o, kvs, rfl, h, rfl⟩ | ⟨d, o, kvs, rfl, h, rfl⟩
  · obtain ⟨b, vs, e, h1, h2⟩ := listOf_at (X := Z.toGy) S r (ds := xs) rfl
    cases e
    exact ⟨vs, SqL.of h1, by rw [h2.length]; exact hi⟩
  · rw [Rep] at r
    obtain ⟨b, e, h1⟩ := r
    cases e
    exact ⟨_, h1.sq, by simpa using hi⟩
  · obtain ⟨b, vs, e, h1, h2⟩ := tup_at (X := Z.toGy) r
    cases e
    exact ⟨vs, SqT.of h1, by rw [h2.length]; exact hi⟩
  · show k ≤ i
    simpa using hi
  · exact ⟨h, by simpa using hi⟩
  · exact ⟨h, by simpa using hi⟩
theorem rI_go {H : Hp} {al : Am} {M : Store} {xs : List D} {J : It} {i : Nat} {d : D} (S : Sto Z.toGx H al M) (h : rI Z H al M (.items xs) J) (hd : xs[i]? = some d) : J.go i H ∧ ∀ x H', J.yld i H x H' → H' = H ∧ Rep Z.K H al M d x := by
  rcases h with ⟨a, d0, rfl, r, rfl | ⟨ns, rfl, rfl⟩⟩ | ⟨a, rfl, r⟩ | ⟨lo, k, rfl, rfl⟩ | ⟨d0, o, kvs, rfl, h, rfl⟩ | ⟨d0, o, kvs, rfl, h, rfl⟩
  · obtain ⟨b, vs, e, h1, h2⟩ := listOf_at (X := Z.toGy) S r (ds := xs) rfl
    cases e
    obtain ⟨v, hv, rv⟩ := h2.get hd
    refine ⟨⟨vs, v, SqL.of h1, hv⟩, fun x H' y => ⟨y.1, ?_⟩⟩
    have := y.2 vs (SqL.of h1)
    rw [hv] at this; cases this; exact rv
  · rw [Rep] at r
    obtain ⟨b, e, h1⟩ := r
    cases e
    obtain ⟨v, hv, rv⟩ := (Reps.of_ints (K := Z.K) (H := H) (al := al) (M := M) ns).get hd
    refine ⟨⟨_, v, h1.sq, hv⟩, fun x H' y => ⟨y.1, ?_⟩⟩
    have := y.2 _ h1.sq
    rw [hv] at this; cases this; exact rv
  · obtain ⟨b, vs, e, h1, h2⟩ := tup_at (X := Z.toGy) r
    cases e
    obtain ⟨v, hv, rv⟩ := h2.get hd
    refine ⟨⟨vs, v, SqT.of h1, hv⟩, fun x H' y => ⟨y.1, ?_⟩⟩
    have := y.2 vs (SqT.of h1)
    rw [hv] at this; cases this; exact rv
  · rw [List.getElem?_map] at hd
    cases e : (List.range k)[i]? with
    | none => rw [e] at hd; cases hd
    | some j =>
      rw [e] at hd
      obtain ⟨hj, hj2⟩ := List.getElem?_eq_some_iff.mp e
      rw [List.getElem_range] at hj2
      subst hj2
      cases hd
      refine ⟨by show i < k; simpa using hj, fun x H' y => ⟨y.1, ?_⟩⟩
      rw [Rep]; exact y.2
  · rw [List.getElem?_map] at hd
    cases e : kvs[i]? with
    | none => rw [e] at hd; cases hd
    | some p =>
      rw [e] at hd
      cases hd
      refine ⟨⟨h, (List.getElem?_eq_some_iff.mp e).1⟩, fun x H' y => ⟨y.1, ?_⟩⟩
      obtain ⟨k, v, e2, rfl⟩ := y.2
      rw [e] at e2
      cases e2
      rcases k with j | s
      · exact int_rep (X := Z.toGy)
      · exact str_rep (X := Z.toGy)
  · rw [List.getElem?_map] at hd
    cases e : kvs[i]? with
    | none => rw [e] at hd; cases hd
    | some p =>
      rw [e] at hd
      cases hd
      refine ⟨⟨h, (List.getElem?_eq_some_iff.mp e).1⟩, fun x H' y => ⟨y.1, ?_⟩⟩
      obtain ⟨k, v, q, e2, rfl, hq⟩ := y.2
      rw [e] at e2
      cases e2
      show Rep _ _ _ _ (tD k) _
      unfold tD
      rw [Rep]
      exact ⟨q, _, rfl, hq, kDs_reps (X := Z.toGy) k⟩
theorem rI_hot {H : Hp} {al : Am} {M : Store} {m : Nat} {xs : List D} {J : It} (S : Sto Z.toGx H al M) (h : rI Z H al M (.hot m) J) (e : M[m]? = some (.lst xs)) :
    (∀ i, xs.length ≤ i → J.stop i H) ∧ ∀ i d, xs[i]? = some d → J.go i H ∧ ∀ x H', J.yld i H x H' → H' = H ∧ Rep Z.K H al M d x := by
  obtain ⟨a, rfl, h0⟩ := h
  obtain ⟨vs, h1, h2⟩ := S.at_ m _ a e h0
  refine ⟨fun i hi => ⟨vs, SqL.of h1, by rw [h2.length]; exact hi⟩, fun i d hd => ?_⟩
  obtain ⟨v, hv, rv⟩ := h2.get hd
  refine ⟨⟨vs, v, SqL.of h1, hv⟩, fun x H' y => ⟨y.1, ?_⟩⟩
  have := y.2 vs (SqL.of h1)
  rw [hv] at this; cases this; exact rv
end
end G

/-! GLc -/
set_option maxRecDepth 100000
set_option maxHeartbeats 4000000
namespace G
open PySem PySem.Spec PyProof.Rows L2

section
variable {X : Gx} {K : PySem.W.Frag} {H H' H1 : Hp} {al al' al1 : Am} {M M' M1 : Store} {D : Addr} {o : HO} {ob : Ob}
structure Soft (H : Hp) (al : Am) (M : Store) (D : Addr) : Prop where
  hot : Hot al M D
  tup : ∀ vs, H D ≠ some (.tup vs)
  frz : ∀ ob u, H D ≠ some (.frz ob u)
theorem Sto.soft (S : Sto X H al M) (hD : Hot al M D) : Soft H al M D := ⟨hD, fun vs e => S.tup_nothot e hD, fun ob u e => S.frz_nothot e hD⟩
theorem Scr.updp (S : Soft H al M D) {a : Addr} {ns : List Int} (h : Scr K H al M a ns) : Scr K (upd H D o) al M a ns := by
  rcases h with ⟨h, h2⟩ | ⟨u, h⟩ | h
  · exact .inl ⟨by rw [upd_ne]; exact h; rintro rfl; exact h2 S.hot, h2⟩
  · refine .inr (.inl ⟨u, ?_⟩)
    rw [upd_ne]; exact h
    rintro rfl; exact S.frz _ _ h
  · exact .inr (.inr h)
mutual
theorem Rep.updp (S : Soft H al M D) : ∀ (d : G.D) (v : V), Rep K H al M d v → Rep K (upd H D o) al M d v
  | .non, _, h => by rw [Rep] at h ⊢; exact h
  | .bl _, _, h => by rw [Rep] at h ⊢; exact h
  | .int _, _, h => by rw [Rep] at h ⊢; exact h
  | .str _, _, h => by rw [Rep] at h ⊢; exact h
  | .tup ds, v, h => by
    rw [Rep] at h ⊢
    obtain ⟨a, vs, e, h1, h2⟩ := h
    exact ⟨a, vs, e, by rw [upd_ne]; exact h1; rintro rfl; exact S.tup _ h1, Reps.updp S ds vs h2⟩
  | .lst ds, v, h => by
    rw [Rep] at h ⊢
    obtain ⟨a, vs, e, h1, h2, h3⟩ := h
    exact ⟨a, vs, e, by rw [upd_ne]; exact h1; rintro rfl; exact h2 S.hot, h2, Reps.updp S ds vs h3⟩
  | .scr ns, v, h => by
    rw [Rep] at h ⊢
    obtain ⟨a, e, h1⟩ := h
    exact ⟨a, e, h1.updp S⟩
  | .ptr n, v, h => by rw [Rep] at h ⊢; exact h
theorem Reps.updp (S : Soft H al M D) : ∀ (ds : List G.D) (vs : List V), Reps K H al M ds vs → Reps K (upd H D o) al M ds vs
  | [], _, h => by rw [Reps] at h ⊢; exact h
  | d :: ds, vs, h => by
    rw [Reps] at h ⊢
    obtain ⟨v, r, e, h1, h2⟩ := h
    exact ⟨v, r, e, Rep.updp S d v h1, Reps.updp S ds r h2⟩
end
theorem Fsr.updp {nm : Nat → Str} (S : Soft H al M D) : ∀ (fs : List (Nat × G.D)) (vs : List (Str × V)), Fsr nm K H al M fs vs → Fsr nm K (upd H D o) al M fs vs
  | [], _, h => h
  | p :: ds, vs, h => by
    obtain ⟨v, r, e, h1, h2⟩ := h
    exact ⟨v, r, e, Rep.updp S _ v h1, Fsr.updp S ds r h2⟩
theorem Dr.updp {κ : Type} {kf : κ → G.D} (S : Soft H al M D) : ∀ (ds : List (G.D × G.D)) (vs : List (κ × V)), Dr kf K H al M ds vs → Dr kf K (upd H D o) al M ds vs
  | [], _, h => h
  | p :: ds, vs, h => by
    obtain ⟨k, v, r, e, hk, h1, h2⟩ := h
    exact ⟨k, v, r, e, hk, Rep.updp S _ v h1, Dr.updp S ds r h2⟩
theorem Dcr.updp {tk : Bool} {kvs : List (G.D × G.D)} {u : HO} (S : Soft H al M D) (h : Dcr tk K H al M kvs u) : Dcr tk K (upd H D o) al M kvs u := by
  cases tk with
  | false => obtain ⟨xs, e, r⟩ := h; exact ⟨xs, e, r.updp S⟩
  | true => obtain ⟨xs, e, r⟩ := h; exact ⟨xs, e, r.updp S⟩
theorem Envr.updp {σ : L2.St} {ρ : Rho} (S : Soft H al M D) (h : Envr K H al M σ ρ) : Envr K (upd H D o) al M σ ρ :=
  ⟨h.len, fun i d e => let ⟨v, e1, r⟩ := h.at_ i d e; ⟨v, e1, Rep.updp S _ _ r⟩⟩
theorem Sto.updp (S : Sto X H al M) (hD : al.pv D) {vs : List V} : Sto X (upd H D (.lst vs)) al M := by
  have hh : Soft H al M D := S.soft (.inr hD)
  refine ⟨S.len, fun n u a e ha => ?_, S.inj, fun a ha => ?_, S.pvd, tabs_upd S.tabs (S.hot_tab (.inr hD))⟩
  · have old := S.at_ n u a e ha
    have hne : u.hot = true → a ≠ D := by
      intro hu
      rintro rfl
      exact S.pvd n a ⟨u, e, hu⟩ ha hD
    cases u with
    | dead => trivial
    | lst ds => obtain ⟨vs, e1, r⟩ := old; exact ⟨vs, by rw [upd_ne (hne rfl)]; exact e1, Reps.updp hh _ _ r⟩
    | ins c fs => obtain ⟨dx, vfs, e1, r, q⟩ := old; exact ⟨dx, vfs, by rw [upd_ne (hne rfl)]; exact e1, Fsr.updp hh _ _ r, q⟩
    | dic tk kvs => obtain ⟨w, e1, r⟩ := old; exact ⟨w, by rw [upd_ne (hne rfl)]; exact e1, r.updp hh⟩
    | fdic tk kvs => obtain ⟨o, w, e1, r⟩ := old; exact ⟨o, w, by rw [upd_ne (by rintro rfl; exact hh.frz _ _ e1)]; exact e1, r.updp hh⟩
  · by_cases q : a = D
    · subst q; exact ⟨vs, upd_same⟩
    · rw [upd_ne q]; exact S.pvl a ha

def Am.pr (al : Am) (D : Addr) : Am := ⟨al.ad, fun a => al.pv a ∨ a = D⟩
structure Stu (H1 : Hp) (al1 : Am) (M1 : Store) (D : Addr) (H : Hp) (al : Am) (M : Store) : Prop where
  pv : al.pv = fun a => al1.pv a ∨ a = D
  pub : Stp H1 al1 M1 H ⟨al.ad, al1.pv⟩ M
theorem Stu.step (u : Stu H1 al1 M1 D H al M) (hD : H1 D = none) (s : Stp H al M H' al' M') : Stu H1 al1 M1 D H' al' M' := by
  refine ⟨by rw [s.pv, u.pv], ?_⟩
  have p := u.pub
  refine ⟨?_, rfl, fun a ha => ?_, fun a o e h ht => ?_, fun a h => s.dom a (p.dom a h), fun n hn hl => p.alive n hn (s.alive n ?_ hl), fun n a hn e => ?_⟩
  · obtain ⟨m1, e1⟩ := p.pre
    obtain ⟨m2, e2⟩ := s.pre
    exact ⟨m1 ++ m2, by show al'.ad = _; rw [e2, show al.ad = _ from e1, List.append_assoc]⟩
  · exact (s.pvk a (by rw [u.pv]; exact .inl ha)).trans (p.pvk a ha)
  · refine s.keep a o (p.keep a o e h ht) ?_ ht
    rintro (⟨n, hl, e2⟩ | hp)
    · exact p.nothot h (by rw [e]; exact sol_some ht) (.inl ⟨n, hl, e2⟩)
    · rw [u.pv] at hp
      rcases hp with hp | rfl
      · exact h (.inr hp)
      · rw [hD] at e; cases e
  · obtain ⟨m1, e1⟩ := p.pre
    rw [show al.ad = _ from e1, List.length_append]; omega
  · by_cases h1 : n < al.ad.length
    · refine p.new n a hn ?_
      obtain ⟨m2, e2⟩ := s.pre
      have e : al'.ad[n]? = some a := e
      rw [e2, List.getElem?_append_left h1] at e
      exact e
    · exact fun q => s.new n a (Nat.le_of_not_lt h1) e (p.dom a q)
theorem Stu.updp (S1 : Sto X H1 al1 M1) (u : Stu H1 al1 M1 D H al M) (hD : H1 D = none) : Stu H1 al1 M1 D (upd H D o) al M := by
  have p := u.pub
  refine ⟨u.pv, p.pre, rfl, fun a ha => ?_, fun a q e h ht => ?_, fun a h => ?_, p.alive, p.new⟩
  · rw [upd_ne]; exact p.pvk a ha
    rintro rfl; obtain ⟨vs, e⟩ := S1.pvl a ha; rw [hD] at e; cases e
  · rw [upd_ne]; exact p.keep a q e h ht
    rintro rfl; rw [hD] at e; cases e
  · by_cases q : a = D
    · subst q; rw [hD] at h; exact absurd h sol_none
    · rw [upd_ne q]; exact p.dom a h
/-- what was known ahead of D's making -/
theorem Stu.start (S1 : Sto X H1 al1 M1) (hD : H1 D = none) : Stu H1 al1 M1 D (upd H1 D (.lst [])) (al1.pr D) M1 := ⟨rfl, Stp.cold S1 hD⟩
theorem pr_hot {a : Addr} (h : Hot (al.pr D) M a) : Hot al M a ∨ a = D := by
  rcases h with h | h | h
  · exact .inl (.inl h)
  · exact .inl (.inr h)
  · exact .inr h
mutual
theorem Rep.pr (hD : H D = none) : ∀ (d : G.D) (v : V), Rep K H al M d v → Rep K H (al.pr D) M d v
  | .non, _, h => by rw [Rep] at h ⊢; exact h
  | .bl _, _, h => by rw [Rep] at h ⊢; exact h
  | .int _, _, h => by rw [Rep] at h ⊢; exact h
  | .str _, _, h => by rw [Rep] at h ⊢; exact h
  | .tup ds, v, h => by
    rw [Rep] at h ⊢
    obtain ⟨a, vs, e, h1, h2⟩ := h
    exact ⟨a, vs, e, h1, Reps.pr hD ds vs h2⟩
  | .lst ds, v, h => by
    rw [Rep] at h ⊢
    obtain ⟨a, vs, e, h1, h2, h3⟩ := h
    exact ⟨a, vs, e, h1, fun q => (pr_hot q).elim h2 (by rintro rfl; rw [hD] at h1; cases h1), Reps.pr hD ds vs h3⟩
  | .scr ns, v, h => by
    rw [Rep] at h ⊢
    obtain ⟨a, e, h1⟩ := h
    refine ⟨a, e, ?_⟩
    rcases h1 with ⟨h1, h2⟩ | h1
    · exact .inl ⟨h1, fun q => (pr_hot q).elim h2 (by rintro rfl; rw [hD] at h1; cases h1)⟩
    · exact .inr h1
  | .ptr n, v, h => by rw [Rep] at h ⊢; exact h
theorem Reps.pr (hD : H D = none) : ∀ (ds : List G.D) (vs : List V), Reps K H al M ds vs → Reps K H (al.pr D) M ds vs
  | [], _, h => by rw [Reps] at h ⊢; exact h
  | d :: ds, vs, h => by
    rw [Reps] at h ⊢
    obtain ⟨v, r, e, h1, h2⟩ := h
    exact ⟨v, r, e, Rep.pr hD d v h1, Reps.pr hD ds r h2⟩
end
theorem Fsr.pr {nm : Nat → Str} (hD : H D = none) : ∀ (fs : List (Nat × G.D)) (vs : List (Str × V)), Fsr nm K H al M fs vs → Fsr nm K H (al.pr D) M fs vs
  | [], _, h => h
  | p :: ds, vs, h => by
    obtain ⟨v, r, e, h1, h2⟩ := h
    exact ⟨v, r, e, Rep.pr hD _ v h1, Fsr.pr hD ds r h2⟩
theorem Dr.pr {κ : Type} {kf : κ → G.D} (hD : H D = none) : ∀ (ds : List (G.D × G.D)) (vs : List (κ × V)), Dr kf K H al M ds vs → Dr kf K H (al.pr D) M ds vs
  | [], _, h => h
  | p :: ds, vs, h => by
    obtain ⟨k, v, r, e, hk, h1, h2⟩ := h
    exact ⟨k, v, r, e, hk, Rep.pr hD _ v h1, Dr.pr hD ds r h2⟩
theorem Dcr.pr {tk : Bool} {kvs : List (G.D × G.D)} {u : HO} (hD : H D = none) (h : Dcr tk K H al M kvs u) : Dcr tk K H (al.pr D) M kvs u := by
  cases tk with
  | false => obtain ⟨xs, e, r⟩ := h; exact ⟨xs, e, r.pr hD⟩
  | true => obtain ⟨xs, e, r⟩ := h; exact ⟨xs, e, r.pr hD⟩
theorem Envr.pr {σ : L2.St} {ρ : Rho} (hD : H D = none) (h : Envr K H al M σ ρ) : Envr K H (al.pr D) M σ ρ :=
  ⟨h.len, fun i d e => let ⟨v, e1, r⟩ := h.at_ i d e; ⟨v, e1, Rep.pr hD _ _ r⟩⟩
theorem soft_new (hD : H D = none) : Soft H (al.pr D) M D := ⟨.inr (.inr rfl), fun vs => by rw [hD]; simp, fun ob u => by rw [hD]; simp⟩
/-- the new list, private -/
theorem Sto.start (S : Sto X H al M) (hD : H D = none) : Sto X (upd H D (.lst [])) (al.pr D) M := by
  have C := S.cold (o := .lst []) hD
  refine ⟨C.len, fun n u a e ha => ?_, C.inj, fun a ha => ?_, fun n a hl ha hp => ?_, C.tabs⟩
  · have old := S.at_ n u a e ha
    have hne : u ≠ .dead → a ≠ D := by
      intro hu
      rintro rfl
      exact old.some_ hu hD
    cases u with
    | dead => trivial
    | lst ds => obtain ⟨vs, e1, r⟩ := old; exact ⟨vs, by rw [upd_ne (hne (by simp))]; exact e1, Reps.updp (soft_new hD) _ _ (Reps.pr hD _ _ r)⟩
    | ins c fs => obtain ⟨dx, vfs, e1, r, q⟩ := old; exact ⟨dx, vfs, by rw [upd_ne (hne (by simp))]; exact e1, Fsr.updp (soft_new hD) _ _ (Fsr.pr hD _ _ r), q⟩
    | dic tk kvs => obtain ⟨w, e1, r⟩ := old; exact ⟨w, by rw [upd_ne (hne (by simp))]; exact e1, (r.pr hD).updp (soft_new hD)⟩
    | fdic tk kvs => obtain ⟨o, w, e1, r⟩ := old; exact ⟨o, w, by rw [upd_ne (hne (by simp))]; exact e1, (r.pr hD).updp (soft_new hD)⟩
  · rcases ha with ha | rfl
    · exact C.pvl a ha
    · exact ⟨[], upd_same⟩
  · rcases hp with hp | rfl
    · exact C.pvd n a hl ha hp
    · exact S.ne (.inl ⟨n, hl, ha⟩) hD
/-- .. let go as a plain list -/
theorem pub_hot {pv : Addr → Prop} (hpv : ∀ a, pv a → al.pv a) {a : Addr} (h : Hot ⟨al.ad, pv⟩ M a) : Hot al M a := h.elim .inl fun h => .inr (hpv a h)
theorem Sto.pub (S : Sto X H al M) {pv : Addr → Prop} (hpv : ∀ a, pv a → al.pv a) : Sto X H ⟨al.ad, pv⟩ M :=
  ⟨S.len, fun n u a e ha => (S.at_ n u a e ha).reh ⟨⟨[], by simp⟩, fun a => pub_hot hpv⟩, S.inj, fun a ha => S.pvl a (hpv a ha), fun n a hl ha hp => S.pvd n a hl ha (hpv a hp), S.tabs⟩
/-- .. taken into the store -/
theorem open_reh {pv : Addr → Prop} (len : al.ad.length = M.length) (hpv : ∀ a, pv a → al.pv a) (hD : al.pv D) : Reh al M ⟨al.ad ++ [D], pv⟩ (M ++ [ob]) := by
  refine ⟨⟨[D], rfl⟩, fun a h => ?_⟩
  rcases h with ⟨n, hl, e⟩ | h
  · rcases add_get (al := al) (p := D) e with ⟨h1, e1⟩ | ⟨h1, rfl⟩
    · exact .inl ⟨n, (live_app (by omega)).mp hl, e1⟩
    · exact .inr hD
  · exact .inr (hpv a h)
theorem Sto.opn (S : Sto X H al M) {pv : Addr → Prop} (hpv : ∀ a, pv a → al.pv a) (hD : al.pv D) (hDn : ¬ pv D) (new : Obr X H ⟨al.ad ++ [D], pv⟩ (M ++ [ob]) ob D) : Sto X H ⟨al.ad ++ [D], pv⟩ (M ++ [ob]) := by
  have hS := S.len
  have rh : Reh al M ⟨al.ad ++ [D], pv⟩ (M ++ [ob]) := open_reh S.len hpv hD
  have nd : ∀ n, ndl M n → al.ad[n]? ≠ some D := fun n hn e => by
    obtain ⟨o, e1, ho⟩ := hn
    by_cases hh : o.hot = true
    · exact S.pvd n D ⟨o, e1, hh⟩ e hD
    · cases o with
      | fdic tk kvs =>
        obtain ⟨u, w, e2, _⟩ := S.at_ n _ D e1 e
        obtain ⟨vs, e3⟩ := S.pvl D hD
        rw [e2] at e3; cases e3
      | dead => exact ho rfl
      | _ => exact hh rfl
  refine ⟨by simp [S.len], fun k u b e hb => ?_, fun i j b hi hj ei ej => ?_, fun a ha => S.pvl a (hpv a ha), fun i b hi e => ?_, S.tabs⟩
  · rcases add_get (al := al) (p := D) hb with ⟨hk, hc⟩ | ⟨hk, hc⟩
    · rw [List.getElem?_append_left (by omega)] at e
      exact (S.at_ k u b e hc).reh rh
    · subst hc hk
      rw [hS] at e
      simp at e
      rw [← e]; exact new
  · rcases add_get (al := al) (p := D) ei with ⟨h1, e1⟩ | ⟨h1, e1⟩ <;> rcases add_get (al := al) (p := D) ej with ⟨h2, e2⟩ | ⟨h2, e2⟩
    · exact S.inj i j b ((ndl_app (by omega)).mp hi) ((ndl_app (by omega)).mp hj) e1 e2
    · subst e2; exact absurd e1 (nd i ((ndl_app (by omega)).mp hi))
    · subst e1; exact absurd e2 (nd j ((ndl_app (by omega)).mp hj))
    · rw [h1, h2]
  · rcases add_get (al := al) (p := D) e with ⟨h1, e1⟩ | ⟨h1, e1⟩
    · exact fun hp => S.pvd i b ((live_app (by omega)).mp hi) e1 (hpv b hp)
    · subst e1; exact hDn
end

theorem wipe_wipe {σ : L2.St} {vs : List Nat} : wipe (wipe σ vs) vs = wipe σ vs := by
  apply List.ext_getElem?
  intro j
  rw [wipe_get, wipe_get, wipe_length]
  by_cases h : j ∈ vs ∧ j < σ.length
  · rw [if_pos h, if_pos h]
  · rw [if_neg h, if_neg h]
theorem wipe_env {K : PySem.W.Frag} {H : Hp} {al : Am} {M : Store} {σ : L2.St} {ρ : Rho} (E : Envr K H al M σ ρ) : ∀ (vs : List Nat), Envr K H al M (wipe σ vs) (wipeR ρ vs)
  | [] => E
  | v :: vs => by
    have ih := wipe_env E vs
    refine ⟨by show ((wipeR ρ vs).set v none).length = ((wipe σ vs).set v none).length; simp [ih.len], fun i d e => ?_⟩
    have e : ((wipeR ρ vs).set v none)[i]? = some (some d) := e
    by_cases hi : v = i
    · subst hi
      by_cases hl : v < (wipeR ρ vs).length
      · rw [List.getElem?_set_self hl] at e; cases e
      · rw [List.getElem?_eq_none (by simpa using hl)] at e; cases e
    · rw [List.getElem?_set_ne hi] at e
      show ∃ w, ((wipe σ vs).set v none)[i]? = _ ∧ _
      rw [List.getElem?_set_ne hi]
      exact ih.at_ i d e

section
variable {Z : Gz} {n : Nat} {W : WX}
/-- between two turns -/
structure LcInv (Z : Gz) (H1 : Hp) (al1 : Am) (M1 : Store) (D : Addr) (σ : L2.St) (ρ : Rho) (k : Wk) (J : It) (H : Hp) (al : Am) (M : Store) (acc : List G.D) : Prop where
  S : Sto Z.toGx H al M
  E : Envr Z.K H al M σ ρ
  u : Stu H1 al1 M1 D H al M
  it : rI Z H al M k J
  acc : ∃ vacc, H D = some (.lst vacc) ∧ Reps Z.K H al M acc vacc
theorem rI.updp {H : Hp} {al : Am} {M : Store} {D : Addr} {o : HO} {k : Wk} {J : It} (S : Soft H al M D) (h : rI Z H al M k J) : rI Z (upd H D o) al M k J := by
  cases k with
  | items xs =>
    rcases h with ⟨a, d, e, r, q⟩ | ⟨a, e, r⟩ | h | ⟨d, u, kvs, e, h, q⟩ | ⟨d, u, kvs, e, h, q⟩
    · exact .inl ⟨a, d, e, Rep.updp S _ _ r, q⟩
    · exact .inr (.inl ⟨a, e, Rep.updp S _ _ r⟩)
    · exact .inr (.inr (.inl h))
    · exact .inr (.inr (.inr (.inl ⟨d, u, kvs, e, by rw [upd_ne (by rintro rfl; exact S.frz _ _ h)]; exact h, q⟩)))
    · exact .inr (.inr (.inr (.inr ⟨d, u, kvs, e, by rw [upd_ne (by rintro rfl; exact S.frz _ _ h)]; exact h, q⟩)))
  | hot m => exact h
theorem rI.pr {H : Hp} {al : Am} {M : Store} {D : Addr} {k : Wk} {J : It} (hD : H D = none) (h : rI Z H al M k J) : rI Z H (al.pr D) M k J := by
  cases k with
  | items xs =>
    rcases h with ⟨a, d, e, r, q⟩ | ⟨a, e, r⟩ | h
    · exact .inl ⟨a, d, e, Rep.pr hD _ _ r, q⟩
    · exact .inr (.inl ⟨a, e, Rep.pr hD _ _ r⟩)
    · exact .inr (.inr h)
  | hot m => exact h
abbrev WF : WX := fun _ _ _ _ => False
/-- the machine's turn -/
noncomputable def lcF (Z : Gz) (n : Nat) (gp : Gp) (t : Tps) (e : Xp) (ρ : Rho) : G.D → Store → Res (Option G.D) := fun x M => match bindG gp x (wipeR ρ (gslots gp)) with
  | some ρ' => ((rnTs Z n t ρ' M).noerr).bind fun b M2 => match b with
    | true => ((rnE Z n e ρ' M2).noerr).bind fun y M3 => .ok (some y) M3
    | false => .ok none M2
  | none => .stuck
theorem lc_turn {H1 : Hp} {al1 : Am} {M1 : Store} {D : Addr} {σ : L2.St} {ρ : Rho} {k : Wk} {J : It} {H : Hp} {al : Am} {M : Store} {acc : List G.D} {gp : Gp} {t : Tps} {e : Xp} {d : G.D} {x : V} {α β : Type} {R : Rl α β} {Q : β → Hp → Prop} {F : List G.D → Store → Res α} {Nx : Hp → Prop}
    (S1 : Sto Z.toGx H1 al1 M1) (hD : H1 D = none) (I : LcInv Z H1 al1 M1 D σ ρ k J H al M acc) (rx : Rep Z.K H al M d x)
    (p : Po Z.toGy R W σ H1 al1 M1 Q ((lcF Z n gp t e ρ d M).bind fun o M1 => match o with
      | some y => if acc.length < big then F (acc ++ [y]) M1 else .stuck
      | none => F acc M1))
    (hN : ∀ H' al' M' acc', LcInv Z H1 al1 M1 D σ ρ k J H' al' M' acc' → Po Z.toGy R W σ H1 al1 M1 Q (F acc' M') → Nx H') :
    tGp Z gp x (wipe σ (gslots gp)) H fun σ2 H2 => wipe σ2 (gslots gp) = wipe σ (gslots gp) ∧ tT Z.toGy WF (rnTs Z n t) σ2 H2 fun b H3 =>
      if b = true then tE Z.toGy WF (rnE Z n e) σ2 H3 fun y H4 => ∃ acc, H4 D = some (.lst acc) ∧ acc.length < sizeLine ∧ Nx (upd H4 D (.lst (acc ++ [y]))) else Nx H3 := by
  unfold lcF at p
  split at p
  · rename_i ρ' eb
    refine ⟨al, wipeR ρ (gslots gp), M, d, ρ', I.S, wipe_env I.E _, rx, eb, fun σ2 E2 hw => ⟨hw.trans wipe_wipe, al, ρ', M, I.S, E2, ?_⟩⟩
    cases q : rnTs Z n t ρ' M with
    | stuck => rw [q] at p; exact p.elim
    | err c fs M' => rw [q] at p; exact p.elim
    | ok b M2 =>
      rw [q] at p
      intro al2 H2 v s2 S2 ev
      cases ev
      have S' := I.S
      have hDpv : al.pv D := by rw [I.u.pv]; exact .inr rfl
      obtain ⟨vacc, hv, hr⟩ := I.acc
      cases b with
      | false =>
        rw [if_neg (by simp)]
        exact hN _ al2 M2 acc ⟨S2, I.E.mono S' s2, I.u.step hD s2, I.it.mono S' s2, vacc, (s2.pvk D hDpv).trans hv, Reps.mono S' s2 _ _ hr⟩ p
      | true =>
        rw [if_pos rfl]
        refine ⟨al2, ρ', M2, S2, E2.mono S' s2, ?_⟩
        simp only [noerr_ok, bind_ok] at p
        cases q3 : rnE Z n e ρ' M2 with
        | stuck => rw [q3] at p; exact p.elim
        | err c fs M' => rw [q3] at p; exact p.elim
        | ok y M3 =>
          rw [q3] at p
          simp only [noerr_ok, bind_ok] at p
          split at p
          · rename_i hlt
            intro al3 H3 w s3 S3 rw3
            have s := s2.trans s3
            have hd3 : H3 D = some (.lst vacc) := (s.pvk D hDpv).trans hv
            have hr3 := Reps.mono S' s _ _ hr
            have hDpv3 : al3.pv D := by rw [s.pv]; exact hDpv
            have so := S3.soft (D := D) (.inr hDpv3)
            refine ⟨vacc, hd3, by rw [hr.length]; exact hlt, hN _ al3 M3 (acc ++ [y]) ⟨S3.updp hDpv3, (I.E.mono S' s).updp so, (I.u.step hD s).updp S1 hD, (I.it.mono S' s).updp so, _, upd_same, ?_⟩ p⟩
            exact Reps.updp so _ _ (hr3.append (.cons rw3 .nil))
          · exact p.elim
  · exact p.elim
theorem lc_end {H1 : Hp} {al1 : Am} {M1 : Store} {D : Addr} {σ : L2.St} {ρ : Rho} {k : Wk} {J : It} {H : Hp} {al : Am} {M : Store} {acc : List G.D} {hot : Bool} {Q : VK}
    (S1 : Sto Z.toGx H1 al1 M1) (hD : H1 D = none) (I : LcInv Z H1 al1 M1 D σ ρ k J H al M acc) (p : Po Z.toGy (rE Z.toGy) W σ H1 al1 M1 Q (newL hot acc M)) : Q (.ref D) H := by
  obtain ⟨vacc, hv, hr⟩ := I.acc
  have hpv : ∀ a, al1.pv a → al.pv a := fun a h => by rw [I.u.pv]; exact .inl h
  have hDpv : al.pv D := by rw [I.u.pv]; exact .inr rfl
  have hDn : ¬ al1.pv D := fun h => by obtain ⟨vs, e⟩ := S1.pvl D h; rw [hD] at e; cases e
  have pub := I.u.pub
  cases hot with
  | false =>
    refine p ⟨al.ad, al1.pv⟩ H (.ref D) pub (I.S.pub hpv) ?_
    show Rep _ _ _ _ _ _
    rw [Rep]
    refine ⟨D, vacc, rfl, hv, ?_, Reps.reh ⟨⟨[], by simp⟩, fun a => pub_hot hpv⟩ _ _ hr⟩
    rintro (⟨m, hl, e⟩ | h)
    · exact I.S.pvd m D hl e hDpv
    · exact hDn h
  | true =>
    have rh : Reh al M ⟨al.ad ++ [D], al1.pv⟩ (M ++ [.lst acc]) := open_reh I.S.len hpv hDpv
    refine p ⟨al.ad ++ [D], al1.pv⟩ H (.ref D) ?_ (I.S.opn hpv hDpv hDn ⟨vacc, hv, Reps.reh rh _ _ hr⟩) ?_
    · refine ⟨?_, rfl, pub.pvk, pub.keep, pub.dom, fun m hm hl => pub.alive m hm ((live_app ?_).mp hl), fun m a hm e => ?_⟩
      · obtain ⟨more, e⟩ := pub.pre
        exact ⟨more ++ [D], by show al.ad ++ [D] = _; rw [show al.ad = _ from e, List.append_assoc]⟩
      · rw [← I.S.len]
        obtain ⟨more, e⟩ := pub.pre
        rw [show al.ad = _ from e, List.length_append]; omega
      · rcases add_get (al := al) (p := D) e with ⟨_, e1⟩ | ⟨_, rfl⟩
        · exact pub.new m a hm e1
        · rw [hD]; exact sol_none
    · show Rep _ _ _ _ _ _
      rw [Rep]
      refine ⟨D, rfl, ?_⟩
      show (al.ad ++ [D])[M.length]? = _
      rw [← I.S.len]; simp
theorem lc_sem {c : Ck} {hot : Bool} {gp : Gp} {it : Ip} {t : Tps} {e : Xp} {σ : L2.St} {H : Hp} {Q : VK} (h : tE Z.toGy W (rnE Z n (.lc hot gp it t e)) σ H Q) :
    tLc (tI Z W (rnI Z n it)) (tGp Z gp) (tT Z.toGy WF (rnTs Z n t)) (tE Z.toGy WF (rnE Z n e)) ((ownOf c gp).map (·.2)) σ H Q := by
  have hvs : (ownOf c gp).map (·.2) = gslots gp := by unfold ownOf; rw [List.map_map]; exact (List.map_congr_left fun _ _ => rfl).trans (List.map_id _)
  rw [hvs]
  unfold rnE at h; simp only [runE] at h
  obtain ⟨al, ρ, M, S, E, p⟩ := h
  refine ⟨al, ρ, M, S, E, (Po.bind (R := rI Z) p).mono ?_⟩
  rintro J H1 ⟨al1, M1, k, s1, S1, rk, p1⟩ D hD
  have E1 := E.mono S s1
  have I0 : LcInv Z H1 al1 M1 D σ ρ k J (upd H1 D (.lst [])) (al1.pr D) M1 [] := ⟨S1.start hD, (E1.pr hD).updp (soft_new hD), Stu.start S1 hD, (rk.pr hD).updp (soft_new hD), [], upd_same, .nil⟩
  cases k with
  | items xs =>
    refine ⟨fun i m H => ∃ al M acc, LcInv Z H1 al1 M1 D σ ρ (.items xs) J H al M acc ∧ m = xs.length - i ∧ Po Z.toGy (rE Z.toGy) W σ H1 al1 M1 Q ((lcA (lcF Z n gp t e ρ) (xs.drop i) acc M).bind fun ys M2 => newL hot ys M2),
      ⟨xs.length, al1.pr D, M1, [], I0, rfl, by rw [List.drop_zero]; exact p1⟩, ?_⟩
    rintro i m H ⟨al, M, acc, I, rfl, p⟩
    by_cases hlt : i < xs.length
    · rw [List.drop_eq_getElem_cons hlt, lcA] at p
      obtain ⟨h1, h2⟩ := rI_go I.S I.it (i := i) (d := xs[i]) (by simp [hlt])
      refine .inr ⟨h1, fun H' => ∃ al M acc, LcInv Z H1 al1 M1 D σ ρ (.items xs) J H' al M acc ∧ Po Z.toGy (rE Z.toGy) W σ H1 al1 M1 Q ((lcA (lcF Z n gp t e ρ) (xs.drop (i + 1)) acc M).bind fun ys M2 => newL hot ys M2), ?_, ?_⟩
      · rintro H' ⟨al', M', acc', I', p'⟩
        exact ⟨xs.length - (i + 1), by omega, al', M', acc', I', rfl, p'⟩
      · intro x H' y
        obtain ⟨rfl, rx⟩ := h2 x H' y
        refine lc_turn (F := fun acc M => (lcA (lcF Z n gp t e ρ) (xs.drop (i + 1)) acc M).bind fun ys M2 => newL hot ys M2) S1 hD I rx ?_ fun H' al' M' acc' I' p' => ⟨al', M', acc', I', p'⟩
        revert p
        cases lcF Z n gp t e ρ xs[i] M with
        | ok o M' => 
          cases o with
          | none => exact id
          | some y =>
            simp only [bind_ok]
            by_cases hz : acc.length < big
            · simp only [if_pos hz]; exact id
            · simp only [if_neg hz]; exact id
        | err c fs M' => exact id
        | stuck => exact id
    · have hd : xs.drop i = [] := List.drop_eq_nil_of_le (Nat.le_of_not_lt hlt)
      rw [hd, lcA] at p
      exact .inl ⟨rI_stop I.S I.it (Nat.le_of_not_lt hlt), lc_end S1 hD I p⟩
  | hot a =>
    refine ⟨fun i m H => ∃ al M acc, LcInv Z H1 al1 M1 D σ ρ (.hot a) J H al M acc ∧ Po Z.toGy (rE Z.toGy) W σ H1 al1 M1 Q ((lcH a (lcF Z n gp t e ρ) m i acc M).bind fun ys M2 => newL hot ys M2),
      ⟨Z.wf, al1.pr D, M1, [], I0, p1⟩, ?_⟩
    rintro i m H ⟨al, M, acc, I, p⟩
    cases m with
    | zero => exact p.elim
    | succ m =>
      rw [lcH] at p
      split at p
      · rename_i xs e1
        obtain ⟨h0, h00⟩ := rI_hot I.S I.it e1
        split at p
        · rename_i e2
          exact .inl ⟨h0 i (List.getElem?_eq_none_iff.mp e2), lc_end S1 hD I p⟩
        · rename_i d e2
          obtain ⟨h1, h2⟩ := h00 i d e2
          refine .inr ⟨h1, fun H' => ∃ al M acc, LcInv Z H1 al1 M1 D σ ρ (.hot a) J H' al M acc ∧ Po Z.toGy (rE Z.toGy) W σ H1 al1 M1 Q ((lcH a (lcF Z n gp t e ρ) m (i + 1) acc M).bind fun ys M2 => newL hot ys M2), ?_, ?_⟩
          · rintro H' ⟨al', M', acc', I', p'⟩
            exact ⟨m, Nat.lt_succ_self m, al', M', acc', I', p'⟩
          · intro x H' y
            obtain ⟨rfl, rx⟩ := h2 x H' y
            refine lc_turn (F := fun acc M => (lcH a (lcF Z n gp t e ρ) m (i + 1) acc M).bind fun ys M2 => newL hot ys M2) S1 hD I rx ?_ fun H' al' M' acc' I' p' => ⟨al', M', acc', I', p'⟩
            revert p
            cases lcF Z n gp t e ρ d M with
            | ok o M' => 
              cases o with
              | none => exact id
              | some y =>
                simp only [bind_ok]
                by_cases hz : acc.length < big
                · simp only [if_pos hz]; exact id
                · simp only [if_neg hz]; exact id
            | err c fs M' => exact id
            | stuck => exact id
      · exact p.elim
theorem z_lc {cx : Cx} {c : Ck} {hot : Bool} {gp : Gp} {it : Ip} {t : Tps} {e : Xp} {elt tg iter : Expr} {ifs : List Expr} {scope : Scope} {pos : Pos} (g : Good Z c cx n) (hi : PI cx tg iter (tI Z W (rnI Z n it))) (hb : blkC cx.N cx.env.scope scope (ownOf c gp) = true)
    (hg : ∀ (s : Shared) (H : Hp) (C : Addr) (cl : List (Str × Addr)) (fp : List Addr), PG (cx.blk s H scope (compEnvC scope cl C cx.env) fp) tg (tGp Z gp))
    (ht : ∀ (s : Shared) (H : Hp) (C : Addr) (cl : List (Str × Addr)) (fp : List Addr), PTs (cx.blk s H scope (compEnvC scope cl C cx.env) fp) ifs (tT Z.toGy WF (rnTs Z n t)))
    (he : ∀ (s : Shared) (H : Hp) (C : Addr) (cl : List (Str × Addr)) (fp : List Addr), PE (cx.blk s H scope (compEnvC scope cl C cx.env) fp) elt (tE Z.toGy WF (rnE Z n e)))
    (hs : ∀ x, foldedSetIterable iter cx.env x = pure x) :
    PEz Z n cx W (.lc hot gp it t e) (.ListComp elt [⟨tg, iter, ifs, 0⟩] scope pos) :=
  (pe_lc (pos := pos) g.calm (by rw [g.N]; exact g.nd) hi (blkOk_by hb) hg ht he hs).imp fun σ H Q h => lc_sem h
end
end G

/-! GSrt -/
set_option maxRecDepth 100000
set_option maxHeartbeats 4000000
namespace G
open PySem PySem.Spec PyProof.Rows L2
section
variable {X : Gy} {K : PySem.W.Frag} {H H2 : Hp} {al : Am} {M : Store}
theorem tupsOf_eq : ∀ {ds : List G.D} {ps : List (List Int)}, tupsOf ds = some ps → ds = ps.map tupD
  | [], ps, h => by simp [tupsOf] at h; rw [h]; rfl
  | d :: r, ps, h => by
    unfold tupsOf at h
    split at h
    · rename_i heq; cases heq
    · rename_i xs r' heq
      cases heq
      split at h
      · rename_i x qs e1 e2
        cases h
        rw [tupsOf_eq e2, intsOf_eq e1]; rfl
      · cases h
    · cases h
theorem tups_reps : ∀ {ps : List (List Int)} {vs : List V}, Reps K H al M (ps.map tupD) vs → PySem.W.EachIs (L2.TupV H) vs ps
  | [], vs, h => by rw [List.map_nil, Reps] at h; subst h; exact .nil
  | x :: ps, vs, h => by
    rw [List.map_cons, Reps] at h
    obtain ⟨v, r, rfl, h1, h2⟩ := h
    unfold tupD at h1
    rw [Rep] at h1
    obtain ⟨a, ws, rfl, h3, h4⟩ := h1
    rw [Reps.ints h4] at h3
    exact .cons ⟨a, rfl, h3⟩ (tups_reps h2)
theorem reps_tups : ∀ {ps : List (List Int)} {vs : List V}, PySem.W.EachIs (L2.TupV H) vs ps → Reps K H al M (ps.map tupD) vs := by
  intro ps vs h
  induction h with
  | nil => exact Reps.nil
  | cons hd _ ih =>
    obtain ⟨t, rfl, h⟩ := hd
    refine Reps.cons ?_ ih
    unfold tupD
    rw [Rep]
    exact ⟨t, _, rfl, h, Reps.of_ints _⟩
/-- tables have grown, new code objects stand: nothing of the store is touched -/
theorem Stp.extN (S : Sto X.toGx H al M) (e : LamX.ExtN H H2) : Stp H al M H2 al M := by
  refine ⟨⟨[], by simp⟩, rfl, fun a ha => ?_, fun a o h _ ht => e a o h ht, fun a h => ?_, fun _ _ h => h, fun n a hn q => by have := (List.getElem?_eq_some_iff.mp q).1; omega⟩
  · obtain ⟨vs, h⟩ := S.pvl a ha
    rw [h]; exact e a _ h (fun _ z => by cases z)
  · obtain ⟨u, h1, h2⟩ := h
    rw [e a u h1 h2]; exact sol_some h2
theorem Sto.extN (S : Sto X.toGx H al M) (e : LamX.ExtN H H2) (t : LamX.Tabs X.tbs H2) : Sto X.toGx H2 al M := by
  have s : Stp H al M H2 al M := Stp.extN S e
  refine ⟨S.len, fun k u b q hb => ?_, S.inj, fun b hb => ?_, S.pvd, t⟩
  · cases hu : u with
    | dead => trivial
    | lst ds =>
      obtain ⟨vs, h, r⟩ := (hu ▸ S.at_ k u b q hb : Obr X.toGx H al M (.lst ds) b)
      exact ⟨vs, e _ _ h (fun _ z => by cases z), Reps.mono S s _ _ r⟩
    | ins c fs =>
      obtain ⟨dx, vfs, h, r, q⟩ := (hu ▸ S.at_ k u b q hb : Obr X.toGx H al M (.ins c fs) b)
      exact ⟨dx, vfs, e _ _ h (fun _ z => by cases z), Fsr.mono S s _ _ r, q⟩
    | dic tk kvs =>
      obtain ⟨w, h, r⟩ := (hu ▸ S.at_ k u b q hb : Obr X.toGx H al M (.dic tk kvs) b)
      refine ⟨w, e _ _ h ?_, r.mono S s⟩
      cases tk with
      | false => obtain ⟨xs, rfl, _⟩ := r; exact fun _ z => by cases z
      | true => obtain ⟨xs, rfl, _⟩ := r; exact fun _ z => by cases z
    | fdic tk kvs =>
      obtain ⟨o, w, h, r⟩ := (hu ▸ S.at_ k u b q hb : Obr X.toGx H al M (.fdic tk kvs) b)
      exact ⟨o, w, e _ _ h (fun _ z => by cases z), r.mono S s⟩
  · obtain ⟨vs, h⟩ := S.pvl b hb
    exact ⟨vs, e _ _ h (fun _ z => by cases z)⟩
end
set_option maxRecDepth 4000 in
theorem lam_bind1 {qq : Str} {body : Expr} {scope : Scope} {pm co ctv v : Value} {w : Str} {q1 : Pos} : bindArgs (PySem.W.kla_fn "<lambda>" qq ⟨[], [⟨w, none, q1⟩], none, [], [], none, []⟩ body scope [] pm co ctv) ⟨[v], []⟩ = pure [(w, v)] := by
  unfold bindArgs PySem.W.kla_fn
  simp [List.lookup, seqItems?]
  rfl
section
variable {Z : Gz} {n : Nat} {cx : Cx} {c : Ck} {W : WX} {pos : Pos}
theorem z_srtk {a : Xp} {l : Expr} {x y z u kw : Str} {params : Arguments} {scope : Scope} {k : Nat} {p p1 p2 p3 p4 bpos lpos kpos : Pos} (g : Good Z c cx n) (hl : c.lam = true) (hx : x = "sorted") (hc : c.blt x = true) (hkw : kw = "key") (hB : lamB params scope y = true) (hu : u = "len") (hz : z = y)
    (hst : noStar l = true) (ha : PEz Z n cx W a l) : PEz Z n cx W (.srtk a) (.Call (.Name x p) [l] [⟨some kw, .Lambda params (.Tuple [.Call (.Name u p1) [.Name y p2] [] p3, .Name z p4] k bpos) scope lpos, kpos⟩] pos) := by
  subst hx hkw hu hz
  obtain ⟨hg, hdb, hnn⟩ := g.bl hc
  obtain ⟨co, tb, l1, l2, l3, l4⟩ := g.lam hl
  unfold lamB at hB
  simp only [Bool.and_eq_true, decide_eq_true_eq, Bool.not_eq_true'] at hB
  obtain ⟨⟨⟨⟨⟨⟨⟨b1, b2⟩, b3⟩, b4⟩, b5⟩, b6⟩, b7⟩, b8⟩ := hB
  split at b1
  · rename_i w q1
    rw [decide_eq_true_eq] at b1
    subst b1
    have hr := g.room
    refine (pe_srtk (T := Z.tbs) hg (g.lnk.blt _ (by simp [blts])) (g.lnk.blt _ (by simp [blts])) ha l2 l1 l3 l4 rfl hst ?_ ?_ (fun _ _ _ _ _ _ => ?_) b2 b3 b4 (fun y hy => ?_) b6 b7 b8).imp fun σ H Q h => ?_
    · exact hr.depth
    · have := hr.un
      omega
    · exact lam_bind1
    · have := List.all_eq_true.mp b5 y hy
      simpa using this
    · unfold rnE at h; simp only [runE] at h
      refine (tG_one (R := rE Z.toGy) h).mono ?_
      rintro v H1 ⟨al, M, d, S, r, q⟩
      split at q
      · rename_i ps e1
        cases e2 : listOf M d with
        | none => rw [e2] at e1; cases e1
        | some ds =>
          rw [e2] at e1
          have e3 : tupsOf ds = some ps := e1
          obtain ⟨a, vs, rfl, h1, h2⟩ := listOf_at S r e2
          rw [tupsOf_eq e3] at h2
          refine ⟨a, vs, ps, rfl, SqL.of h1, tups_reps h2, S.tabs, fun H2 hx2 hT2 ys p hy hp => ?_⟩
          have s := Stp.extN S hx2
          refine Po.newC (S.extN hx2 hT2) ?_ hp (Po.step q s)
          have hy' : PySem.W.EachIs (L2.TupV H2) ys (sortT ps) := by
            unfold sortT
            rw [← keyLe_eq]; exact hy
          exact reps_tups hy'
      · exact q.elim
  · cases b1
end
end G

/-! GMut -/
set_option maxRecDepth 100000
set_option maxHeartbeats 4000000
namespace G
open PySem PySem.Spec PyProof.Rows L2

theorem takes_F {cx : Cx} (h : ∀ W : WX, (∀ c d σ H, ¬ W c d σ H) → Takes cx W) : Takes cx WF := h _ fun _ _ _ _ q => q
theorem takesF {cx : Cx} : Takes cx WF := fun u s' ⟨a, B, sI, pins, σ, H, cls, d, e, I, nb, up, sky, na, os, ag, w⟩ => False.elim w
section
variable {Z : Gz} {n : Nat}
theorem Lnk.of {cx cx' : Cx} (l : Lnk Z cx n) (h1 : cx'.K = cx.K) (h2 : cx'.prog = cx.prog) (h3 : cx'.w = cx.w) (h4 : cx'.mg = cx.mg) (h5 : cx'.base = cx.base) : Lnk Z cx' n := by
  cases cx
  cases cx'
  dsimp only at h1 h2 h3 h4 h5
  subst h1 h2 h3 h4 h5
  exact ⟨l.K, fun f k e => ⟨(l.fn f k e).ex, (l.fn f k e).kp⟩, l.fnm, l.blt, l.clm, l.cls, l.mks, l.meth, fun k e h => ⟨(l.ers k e h).ex, (l.ers k e h).fl, (l.ers k e h).ne, (l.ers k e h).few⟩, l.erm, l.exm, l.xfc, l.noat, l.nms⟩
theorem Good.blk {c : Ck} {cx : Cx} (g : Good Z c cx n) (s : Shared) (H : Hp) (scope : Scope) (C : Addr) (cl : List (Str × Addr)) (fp : List Addr) : Good Z (c.blk scope) (cx.blk s H scope (compEnvC scope cl C cx.env) fp) n :=
  ⟨g.lnk.of rfl rfl rfl rfl rfl, g.P, by
    show relS scope cx.env.scope = relS scope c.sc
    rw [g.sc], g.N, g.nd, rfl, g.calm, g.room, fun h => by cases h⟩
theorem z_var {cx : Cx} {c : Ck} {W : WX} {i : Nat} {x : Str} {pos : Pos} (g : Good Z c cx n) (h : c.var i x = true) : PEz Z n cx W (.v i) (.Name x pos) := by
  unfold Ck.var at h
  simp only [Bool.and_eq_true, decide_eq_true_eq, Bool.not_eq_true'] at h
  obtain ⟨⟨⟨h1, h2⟩, h3⟩, h4⟩ := h
  refine (pe_var (by rw [g.N]; exact h1) (g.vis h2) h3 h4).imp fun σ H Q hh => ?_
  unfold rnE at hh; simp only [runE] at hh
  obtain ⟨al, ρ, M, S, E, p⟩ := hh
  dsimp only at p
  split at p
  · rename_i d e
    obtain ⟨v, e1, r⟩ := E.at_ i d e
    exact ⟨v, e1, p.ok S r⟩
  · exact p.elim
theorem z_pts0 {cx : Cx} {W : WX} : PTs cx [] (tT Z.toGy W (rnTs Z n .nil)) := ⟨fun pins s σ H Q I h => pts_nil.run pins s σ H Q I (by
  unfold rnTs at h; simp only [runTs] at h
  obtain ⟨al, ρ, M, S, E, p⟩ := h
  exact p.ok S rfl)⟩
theorem z_pts1 {cx : Cx} {W : WX} {t : Tp} {e : Expr} (h : PTz Z n cx W t e) : PTs cx [e] (tT Z.toGy W (rnTs Z n (.cons t .nil))) := ⟨fun pins s σ H Q I hh => (pts_one h).run pins s σ H Q I (by
  unfold rnTs at hh; simp only [runTs] at hh
  exact hh)⟩
theorem z_tand {cx : Cx} {W : WX} {ts : Tps} {e : Expr} (h : PW cx e (tT Z.toGy W (rnTs Z n ts))) : PTz Z n cx W (.tand ts) e := h.pt.imp fun σ H Q hh => by
  unfold rnT at hh; simp only [runT] at hh; exact hh
theorem z_tor {cx : Cx} {W : WX} {ts : Tps} {e : Expr} (h : PW cx e (tT Z.toGy W (rnTo Z n ts))) : PTz Z n cx W (.tor ts) e := h.pt.imp fun σ H Q hh => by
  unfold rnT at hh; simp only [runT] at hh; exact hh
theorem chkA_form {c : Ck} {as : Xps} {es : List Expr} (h : chkA c as es = true) : (as = .nil ∧ es = []) ∨ ∃ e es', es = e :: es' := by
  cases as with
  | nil => cases es with
    | nil => exact .inl ⟨rfl, rfl⟩
    | cons _ _ => simp [chkA] at h
  | cons a r => cases es with
    | nil => simp [chkA] at h
    | cons e es => exact .inr ⟨e, es, rfl⟩

theorem sndI_fold {env : Env} (x : Ip) (c : Ck) (e : Expr) (h : chkI c x e = true) (u : Value) : foldedSetIterable e env u = pure u := by
  refine folded_of ?_ u
  cases x with
  | val a => rw [chkI] at h; exact plainX_set (chk_plain _ _ h)
  | rng1 a => 
    unfold chkI at h; split at h
    · rfl
    · cases h
  | rng2 a b => 
    unfold chkI at h; split at h
    · rfl
    · cases h
mutual
theorem sndE : ∀ (x : Xp) (c : Ck) (cx : Cx) (W : WX) (e : Expr), Good Z c cx n → Takes cx W → chkE c x e = true → PEz Z n cx W x e
  | .non, c, cx, W, e, g, tk, h => by
    unfold chkE at h; split at h
    · exact z_c pe_non (fun _ _ _ => non_rep) fun _ _ => rfl
    · cases h
  | .bl b, c, cx, W, e, g, tk, h => by
    unfold chkE at h; split at h
    · rw [beq_iff_eq] at h; subst h
      exact z_c pe_bl (fun _ _ _ => bl_rep) fun _ _ => rfl
    · cases h
  | .int i, c, cx, W, e, g, tk, h => by
    unfold chkE at h; split at h
    · rw [decide_eq_true_eq] at h; subst h
      exact z_c pe_int (fun _ _ _ => int_rep) fun _ _ => rfl
    · cases h
  | .str x, c, cx, W, e, g, tk, h => by
    unfold chkE at h; split at h
    · rw [decide_eq_true_eq] at h; subst h
      exact z_c pe_str (fun _ _ _ => str_rep) fun _ _ => rfl
    · cases h
  | .v i, c, cx, W, e, g, tk, h => by
    unfold chkE at h; split at h
    · exact z_var g h
    · cases h
  | .bin o a b, c, cx, W, e, g, tk, h => by
    unfold chkE at h; split at h
    · simp only [Bool.and_eq_true, decide_eq_true_eq] at h
      obtain ⟨⟨rfl, h1⟩, h2⟩ := h
      exact z_bin g (sndE a c cx W _ g tk h1) (sndE b c cx W _ g tk h2)
    · cases h
  | .neg a, c, cx, W, e, g, tk, h => by
    unfold chkE at h; split at h
    · exact z_neg (sndE a c cx W _ g tk h)
    · cases h
  | .notV a, c, cx, W, e, g, tk, h => by
    unfold chkE at h; split at h
    · exact z_notV (sndE a c cx W _ g tk h)
    · cases h
  | .cmp o a b, c, cx, W, e, g, tk, h => by
    unfold chkE at h; split at h
    · simp only [Bool.and_eq_true, decide_eq_true_eq] at h
      obtain ⟨⟨rfl, h1⟩, h2⟩ := h
      exact z_cmp g (plainX_set (chk_plain _ _ h2)) (sndE a c cx W _ g tk h1) (sndE b c cx W _ g tk h2)
    · cases h
  | .chn o p a b d, c, cx, W, e, g, tk, h => by
    unfold chkE at h; split at h
    · simp only [Bool.and_eq_true, decide_eq_true_eq] at h
      obtain ⟨⟨⟨⟨rfl, rfl⟩, h1⟩, h2⟩, h3⟩ := h
      exact z_chn g (plainX_set (chk_plain _ _ h3)) (sndE a c cx W _ g tk h1) (sndE b c cx W _ g tk h2) (sndE d c cx W _ g tk h3)
    · cases h
  | .isN a, c, cx, W, e, g, tk, h => by
    unfold chkE at h; split at h
    · exact z_isN (sndE a c cx W _ g tk h)
    · cases h
  | .notN a, c, cx, W, e, g, tk, h => by
    unfold chkE at h; split at h
    · exact z_notN (sndE a c cx W _ g tk h)
    · cases h
  | .andV as, c, cx, W, e, g, tk, h => by
    unfold chkE at h; split at h
    · exact sndAnd as c cx W _ _ g tk h
    · cases h
  | .orV as, c, cx, W, e, g, tk, h => by
    unfold chkE at h; split at h
    · exact sndOr as c cx W _ _ g tk h
    · cases h
  | .ife t a b, c, cx, W, e, g, tk, h => by
    unfold chkE at h; split at h
    · simp only [Bool.and_eq_true] at h
      obtain ⟨⟨h1, h2⟩, h3⟩ := h
      exact z_ife (sndT t c cx W _ g tk h1) (sndE a c cx W _ g tk h2) (sndE b c cx W _ g tk h3)
    · cases h
  | .call f as, c, cx, W, e, g, tk, h => by
    unfold chkE at h; split at h
    · simp only [Bool.and_eq_true] at h
      obtain ⟨⟨h1, h2⟩, h3⟩ := h
      split at h1
      · rename_i k e1
        rw [Bool.and_eq_true, decide_eq_true_eq] at h1
        exact z_call g tk (by rw [← g.P]; exact e1) h1.1 h1.2 h2 (chkA_star _ _ h3) (chkA_form h3) (sndA as c cx W _ g tk h3)
      · cases h1
    · cases h
  | .mk f as, c, cx, W, e, g, tk, h => by
    unfold chkE at h; split at h
    · simp only [Bool.and_eq_true] at h
      obtain ⟨⟨h1, h2⟩, h3⟩ := h
      split at h1
      · rename_i k e1
        rw [decide_eq_true_eq] at h1
        exact z_mk g tk (by rw [← g.P]; exact e1) h1 h2 (chkA_star _ _ h3) (chkA_form h3) (sndA as c cx W _ g tk h3)
      · cases h1
    · cases h
  | .meth o m as, c, cx, W, e, g, tk, h => by
    unfold chkE at h; split at h
    · simp only [Bool.and_eq_true, decide_eq_true_eq] at h
      obtain ⟨⟨⟨⟨⟨h1, h2⟩, h3⟩, h4⟩, h5⟩, h6⟩ := h
      exact z_meth g tk h1 h2 h3 h4 (chkA_star _ _ h6) (chkA_form h6) (sndE o c cx W _ g tk h5) (sndA as c cx W _ g tk h6)
    · cases h
  | .bi f as, c, cx, W, e, g, tk, h => by
    unfold chkE at h; split at h
    · simp only [Bool.and_eq_true, decide_eq_true_eq] at h
      obtain ⟨⟨⟨h1, h2⟩, h3⟩, h4⟩ := h
      rcases chkA_form h4 with ⟨rfl, rfl⟩ | ⟨e, es', rfl⟩
      · cases h3
      · exact z_bi g h1 h2 (chkA_star _ _ h4) (sndA as c cx W _ g tk h4)
    · cases h
  | .bm f o as, c, cx, W, e, g, tk, h => by
    unfold chkE at h; split at h
    · simp only [Bool.and_eq_true, decide_eq_true_eq, beq_iff_eq] at h
      obtain ⟨⟨⟨⟨⟨⟨h1, h2⟩, h3⟩, h4⟩, h7⟩, h5⟩, h6⟩ := h
      refine z_bm g h1 h2 h3 (by simpa using h4) (chkA_star _ _ h6) ?_ (sndE o c cx W _ g tk h5) (sndA as c cx W _ g tk h6)
      rcases chkA_form h6 with ⟨rfl, rfl⟩ | ⟨e, es', rfl⟩
      · exact .inl ⟨rfl, rfl, by simpa using h7⟩
      · exact .inr ⟨e, es', rfl, by simpa using h7⟩
    · cases h
  | .isi a t, c, cx, W, e, g, tk, h => by
    unfold chkE at h; split at h
    · simp only [Bool.and_eq_true, decide_eq_true_eq] at h
      obtain ⟨⟨⟨⟨h1, h2⟩, h3⟩, h4⟩, h5⟩ := h
      exact z_isi g h1 h2 h3 h4 (plainX_star (chk_plain _ _ h5)) (sndE a c cx W _ g tk h5)
    · cases h
  | .fld o f, c, cx, W, e, g, tk, h => by
    unfold chkE at h; split at h
    · simp only [Bool.and_eq_true] at h
      obtain ⟨⟨h1, h2⟩, h3⟩ := h
      exact z_fld g h1 h2 (sndE o c cx W _ g tk h3)
    · cases h
  | .ix o i, c, cx, W, e, g, tk, h => by
    unfold chkE at h; split at h
    · simp only [Bool.and_eq_true] at h
      exact z_ix g (plainX_slice (chk_plain _ _ h.2)) (sndE o c cx W _ g tk h.1) (sndE i c cx W _ g tk h.2)
    · cases h
  | .sl o lo hi, c, cx, W, e, g, tk, h => by
    unfold chkE at h; split at h
    · simp only [Bool.and_eq_true] at h
      exact z_sl g (sndE o c cx W _ g tk h.1.1) (sndO lo c cx W _ g tk h.1.2) (sndO hi c cx W _ g tk h.2)
    · cases h
  | .tup as, c, cx, W, e, g, tk, h => by
    unfold chkE at h; split at h
    · exact z_tup (sndA as c cx W _ g tk h)
    · cases h
  | .lst hot as, c, cx, W, e, g, tk, h => by
    unfold chkE at h; split at h
    · exact z_lst (sndA as c cx W _ g tk h)
    · cases h
  | .lc hot gp it t a, c, cx, W, e, g, tk, h => by
    unfold chkE at h; split at h
    · simp only [Bool.and_eq_true] at h
      obtain ⟨⟨⟨⟨h1, h2⟩, h3⟩, h4⟩, h5⟩ := h
      exact z_lc g (sndI it c cx W _ _ g tk h1) (by rw [g.N, g.sc]; exact h2) (fun s H C cl fp => z_tgt (g.blk s H _ C cl fp) h3)
        (fun s H C cl fp => sndIfs t _ _ WF _ (g.blk s H _ C cl fp) takesF h4) (fun s H C cl fp => sndE a _ _ WF _ (g.blk s H _ C cl fp) takesF h5) (sndI_fold it c _ h1)
    · cases h
  | .frz a, c, cx, W, e, g, tk, h => by
    rw [chkE] at h
    exact z_frz (sndE a c cx W _ g tk h)
  | .lrg hot a, c, cx, W, e, g, tk, h => by
    unfold chkE at h; split at h
    · simp only [Bool.and_eq_true, decide_eq_true_eq] at h
      obtain ⟨⟨⟨⟨h1, h2⟩, h3⟩, h4⟩, h5⟩ := h
      exact z_lrg g h1 h2 h3 h4 (plainX_star (chk_plain _ _ h5)) (sndE a c cx W _ g tk h5)
    · cases h
  | .lrg2 hot a b, c, cx, W, e, g, tk, h => by
    unfold chkE at h; split at h
    · simp only [Bool.and_eq_true, decide_eq_true_eq] at h
      obtain ⟨⟨⟨⟨⟨h1, h2⟩, h3⟩, h4⟩, h5⟩, h6⟩ := h
      exact z_lrg2 g h1 h2 h3 h4 (plainX_star (chk_plain _ _ h5)) (plainX_star (chk_plain _ _ h6)) (sndE a c cx W _ g tk h5) (sndE b c cx W _ g tk h6)
    · cases h
  | .trg a, c, cx, W, e, g, tk, h => by
    unfold chkE at h; split at h
    · simp only [Bool.and_eq_true, decide_eq_true_eq] at h
      obtain ⟨⟨⟨⟨h1, h2⟩, h3⟩, h4⟩, h5⟩ := h
      exact z_trg g h1 h2 h3 h4 (plainX_star (chk_plain _ _ h5)) (sndE a c cx W _ g tk h5)
    · cases h
  | .trg2 a b, c, cx, W, e, g, tk, h => by
    unfold chkE at h; split at h
    · simp only [Bool.and_eq_true, decide_eq_true_eq] at h
      obtain ⟨⟨⟨⟨⟨h1, h2⟩, h3⟩, h4⟩, h5⟩, h6⟩ := h
      exact z_trg2 g h1 h2 h3 h4 (plainX_star (chk_plain _ _ h5)) (plainX_star (chk_plain _ _ h6)) (sndE a c cx W _ g tk h5) (sndE b c cx W _ g tk h6)
    · cases h
  | .dnew tkk, c, cx, W, e, g, tk, h => by
    unfold chkE at h; split at h
    · exact z_dnew g
    · cases h
  | .srtk a, c, cx, W, e, g, tk, h => by
    unfold chkE at h; split at h
    · simp only [Bool.and_eq_true, decide_eq_true_eq] at h
      obtain ⟨⟨⟨⟨⟨⟨⟨⟨h1, h2⟩, h3⟩, h4⟩, h5⟩, h6⟩, h7⟩, h8⟩, h9⟩ := h
      exact z_srtk g h1 h2 h3 h4 h5 h6 h7 h8 (sndE a c cx W _ g tk h9)
    · cases h
  | .isB b a, c, cx, W, e, g, tk, h => by
    unfold chkE at h; split at h
    · rw [Bool.and_eq_true, beq_iff_eq] at h
      obtain ⟨rfl, h1⟩ := h
      exact z_isB (sndE a c cx W _ g tk h1)
    · cases h
theorem sndA : ∀ (x : Xps) (c : Ck) (cx : Cx) (W : WX) (es : List Expr), Good Z c cx n → Takes cx W → chkA c x es = true → PAz Z n cx W x es
  | .nil, c, cx, W, es, g, tk, h => by
    cases es with
    | nil => exact z_nilA
    | cons _ _ => simp [chkA] at h
  | .cons a r, c, cx, W, es, g, tk, h => by
    cases es with
    | nil => simp [chkA] at h
    | cons e es =>
      rw [chkA, Bool.and_eq_true] at h
      exact z_consA (plainX_star (chk_plain _ _ h.1)) (sndE a c cx W _ g tk h.1) (sndA r c cx W _ g tk h.2)
theorem sndAnd : ∀ (x : Xps) (c : Ck) (cx : Cx) (W : WX) (es : List Expr) (pos : Pos), Good Z c cx n → Takes cx W → chkA c x es = true → PEz Z n cx W (.andV x) (.BoolOp .And es pos)
  | .nil, c, cx, W, es, pos, g, tk, h => ⟨fun pins s σ H Q I hh => by
    unfold rnE at hh; simp only [runE, runAnd] at hh
    obtain ⟨al, ρ, M, S, E, p⟩ := hh
    exact p.elim⟩
  | .cons a .nil, c, cx, W, es, pos, g, tk, h => by
    cases es with
    | nil => simp [chkA] at h
    | cons e es =>
      rw [chkA, Bool.and_eq_true] at h
      cases es with
      | nil => exact z_and1 (sndE a c cx W _ g tk h.1)
      | cons _ _ => simp [chkA] at h
  | .cons a (.cons b r), c, cx, W, es, pos, g, tk, h => by
    cases es with
    | nil => simp [chkA] at h
    | cons e es =>
      rw [chkA, Bool.and_eq_true] at h
      cases es with
      | nil => simp [chkA] at h
      | cons e' es => exact z_and2 (sndE a c cx W _ g tk h.1) (sndAnd (.cons b r) c cx W _ _ g tk h.2)
theorem sndOr : ∀ (x : Xps) (c : Ck) (cx : Cx) (W : WX) (es : List Expr) (pos : Pos), Good Z c cx n → Takes cx W → chkA c x es = true → PEz Z n cx W (.orV x) (.BoolOp .Or es pos)
  | .nil, c, cx, W, es, pos, g, tk, h => ⟨fun pins s σ H Q I hh => by
    unfold rnE at hh; simp only [runE, runOr] at hh
    obtain ⟨al, ρ, M, S, E, p⟩ := hh
    exact p.elim⟩
  | .cons a .nil, c, cx, W, es, pos, g, tk, h => by
    cases es with
    | nil => simp [chkA] at h
    | cons e es =>
      rw [chkA, Bool.and_eq_true] at h
      cases es with
      | nil => exact z_or1 (sndE a c cx W _ g tk h.1)
      | cons _ _ => simp [chkA] at h
  | .cons a (.cons b r), c, cx, W, es, pos, g, tk, h => by
    cases es with
    | nil => simp [chkA] at h
    | cons e es =>
      rw [chkA, Bool.and_eq_true] at h
      cases es with
      | nil => simp [chkA] at h
      | cons e' es => exact z_or2 (sndE a c cx W _ g tk h.1) (sndOr (.cons b r) c cx W _ _ g tk h.2)
theorem sndO : ∀ (x : Op) (c : Ck) (cx : Cx) (W : WX) (e : Option Expr), Good Z c cx n → Takes cx W → chkO c x e = true → PO cx e (tO Z.toGy W (rnO Z n x))
  | .no, c, cx, W, e, g, tk, h => by
    cases e with
    | none => exact z_no
    | some _ => simp [chkO] at h
  | .so a, c, cx, W, e, g, tk, h => by
    cases e with
    | none => simp [chkO] at h
    | some e => exact z_so (sndE a c cx W _ g tk (by rw [chkO] at h; exact h))
theorem sndT : ∀ (x : Tp) (c : Ck) (cx : Cx) (W : WX) (e : Expr), Good Z c cx n → Takes cx W → chkT c x e = true → PTz Z n cx W x e
  | .val a, c, cx, W, e, g, tk, h => by
    rw [chkT, Bool.and_eq_true] at h
    exact z_val g h.1 (sndE a c cx W _ g tk h.2)
  | .cmp o a b, c, cx, W, e, g, tk, h => by
    unfold chkT at h; split at h
    · simp only [Bool.and_eq_true, decide_eq_true_eq] at h
      obtain ⟨⟨rfl, h1⟩, h2⟩ := h
      exact z_tcmp g (plainX_set (chk_plain _ _ h2)) (sndE a c cx W _ g tk h1) (sndE b c cx W _ g tk h2)
    · cases h
  | .chn o p a b d, c, cx, W, e, g, tk, h => by
    unfold chkT at h; split at h
    · simp only [Bool.and_eq_true, decide_eq_true_eq] at h
      obtain ⟨⟨⟨⟨rfl, rfl⟩, h1⟩, h2⟩, h3⟩ := h
      exact z_tchn g (plainX_set (chk_plain _ _ h3)) (sndE a c cx W _ g tk h1) (sndE b c cx W _ g tk h2) (sndE d c cx W _ g tk h3)
    · cases h
  | .isN a, c, cx, W, e, g, tk, h => by
    unfold chkT at h; split at h
    · exact z_tisN (sndE a c cx W _ g tk h)
    · cases h
  | .notN a, c, cx, W, e, g, tk, h => by
    unfold chkT at h; split at h
    · exact z_tnotN (sndE a c cx W _ g tk h)
    · cases h
  | .tnot t, c, cx, W, e, g, tk, h => by
    unfold chkT at h; split at h
    · exact z_tnot (sndT t c cx W _ g tk h)
    · cases h
  | .tand ts, c, cx, W, e, g, tk, h => by
    unfold chkT at h; split at h
    · exact z_tand (sndTs ts c cx W _ _ g tk h)
    · cases h
  | .tor ts, c, cx, W, e, g, tk, h => by
    unfold chkT at h; split at h
    · exact z_tor (sndTo ts c cx W _ _ g tk h)
    · cases h
theorem sndTs : ∀ (x : Tps) (c : Ck) (cx : Cx) (W : WX) (es : List Expr) (pos : Pos), Good Z c cx n → Takes cx W → chkTs c x es = true → PW cx (.BoolOp .And es pos) (tT Z.toGy W (rnTs Z n x))
  | .nil, c, cx, W, es, pos, g, tk, h => by simp [chkTs] at h
  | .cons a .nil, c, cx, W, es, pos, g, tk, h => by
    unfold chkTs at h; split at h
    · exact z_tand1 (sndT a c cx W _ g tk h)
    · cases h
  | .cons a (.cons b r), c, cx, W, es, pos, g, tk, h => by
    unfold chkTs at h; split at h
    · rw [Bool.and_eq_true] at h
      exact z_tand2 (sndT a c cx W _ g tk h.1) (sndTs (.cons b r) c cx W _ _ g tk h.2)
    · cases h
theorem sndTo : ∀ (x : Tps) (c : Ck) (cx : Cx) (W : WX) (es : List Expr) (pos : Pos), Good Z c cx n → Takes cx W → chkTs c x es = true → PW cx (.BoolOp .Or es pos) (tT Z.toGy W (rnTo Z n x))
  | .nil, c, cx, W, es, pos, g, tk, h => by simp [chkTs] at h
  | .cons a .nil, c, cx, W, es, pos, g, tk, h => by
    unfold chkTs at h; split at h
    · exact z_tor1 (sndT a c cx W _ g tk h)
    · cases h
  | .cons a (.cons b r), c, cx, W, es, pos, g, tk, h => by
    unfold chkTs at h; split at h
    · rw [Bool.and_eq_true] at h
      exact z_tor2 (sndT a c cx W _ g tk h.1) (sndTo (.cons b r) c cx W _ _ g tk h.2)
    · cases h
theorem sndIfs : ∀ (x : Tps) (c : Ck) (cx : Cx) (W : WX) (es : List Expr), Good Z c cx n → Takes cx W → chkIfs c x es = true → PTs cx es (tT Z.toGy W (rnTs Z n x))
  | .nil, c, cx, W, es, g, tk, h => by
    cases es with
    | nil => exact z_pts0
    | cons _ _ => simp [chkIfs] at h
  | .cons a .nil, c, cx, W, es, g, tk, h => by
    unfold chkIfs at h; split at h
    · exact z_pts1 (sndT a c cx W _ g tk h)
    · cases h
  | .cons a (.cons b r), c, cx, W, es, g, tk, h => by simp [chkIfs] at h
theorem sndI : ∀ (x : Ip) (c : Ck) (cx : Cx) (W : WX) (tg e : Expr), Good Z c cx n → Takes cx W → chkI c x e = true → PI cx tg e (tI Z W (rnI Z n x))
  | .val a, c, cx, W, tg, e, g, tk, h => by
    rw [chkI] at h
    exact z_ival g (sndE a c cx W _ g tk h)
  | .rng1 a, c, cx, W, tg, e, g, tk, h => by
    unfold chkI at h; split at h
    · simp only [Bool.and_eq_true, decide_eq_true_eq] at h
      obtain ⟨⟨h1, h2⟩, h3⟩ := h
      exact z_rng1 g h1 h2 (plainX_star (chk_plain _ _ h3)) (sndE a c cx W _ g tk h3)
    · cases h
  | .rng2 a b, c, cx, W, tg, e, g, tk, h => by
    unfold chkI at h; split at h
    · simp only [Bool.and_eq_true, decide_eq_true_eq] at h
      obtain ⟨⟨⟨h1, h2⟩, h3⟩, h4⟩ := h
      exact z_rng2 g h1 h2 (plainX_star (chk_plain _ _ h3)) (plainX_star (chk_plain _ _ h4)) (sndE a c cx W _ g tk h3) (sndE b c cx W _ g tk h4)
    · cases h
end
end
end G

/-! GStm -/
set_option maxRecDepth 100000
set_option maxHeartbeats 4000000
namespace G
open PySem PySem.Spec PyProof.Rows L2

/-- what is wanted of a statement's end -/
def PoS (X : Gy) (W : WX) (D : Ends) (H : Hp) (al : Am) (M : Store) : Out → Prop
  | some (.nx ρ, M') => ∀ al' H' σ', Stp H al M H' al' M' → Sto X.toGx H' al' M' → Envr X.K H' al' M' σ' ρ → D.nx σ' H'
  | some (.bk ρ, M') => ∀ al' H' σ', Stp H al M H' al' M' → Sto X.toGx H' al' M' → Envr X.K H' al' M' σ' ρ → D.bk σ' H'
  | some (.ct ρ, M') => ∀ al' H' σ', Stp H al M H' al' M' → Sto X.toGx H' al' M' → Envr X.K H' al' M' σ' ρ → D.ct σ' H'
  | some (.rt d, M') => ∀ al' H' v, Stp H al M H' al' M' → Sto X.toGx H' al' M' → Rep X.K H' al' M' d v → D.rt v H'
  | some (.er c fs ρ, M') => ∀ al' H' σ' cls dd, Stp H al M H' al' M' → Sto X.toGx H' al' M' → Envr X.K H' al' M' σ' ρ → Exr X H' al' M' c fs cls dd → W cls dd σ' H'
  | none => False
def tS (X : Gy) (W : WX) (f : Rho → Store → Out) : TS := fun D σ H => ∃ al ρ M, Sto X.toGx H al M ∧ Envr X.K H al M σ ρ ∧ PoS X W D H al M (f ρ M)
section
variable {X : Gy} {W : WX} {D : Ends} {σ : L2.St} {ρ : Rho} {H H1 : Hp} {al al1 : Am} {M M1 : Store} {o : Out} {α β : Type} {R : Rl α β}
theorem PoS.step (p : PoS X W D H al M o) (s : Stp H al M H1 al1 M1) : PoS X W D H1 al1 M1 o := by
  match o, p with
  | some (.nx ρ, M'), p => exact fun al' H' σ' s' S E => p al' H' σ' (s.trans s') S E
  | some (.bk ρ, M'), p => exact fun al' H' σ' s' S E => p al' H' σ' (s.trans s') S E
  | some (.ct ρ, M'), p => exact fun al' H' σ' s' S E => p al' H' σ' (s.trans s') S E
  | some (.rt d, M'), p => exact fun al' H' v s' S E => p al' H' v (s.trans s') S E
  | some (.er c fs ρ, M'), p => exact fun al' H' σ' cls dd s' S E x => p al' H' σ' cls dd (s.trans s') S E x
theorem PoS.nxt (S : Sto X.toGx H al M) (E : Envr X.K H al M σ ρ) (p : PoS X W D H al M (some (.nx ρ, M))) : D.nx σ H := p al H σ Stp.refl S E
theorem PoS.ex {r : Res α} {f : α → Store → Out} (S : Sto X.toGx H al M) (E : Envr X.K H al M σ ρ) (p : PoS X W D H al M (withE r ρ f)) :
    Po X R W σ H al M (fun v H1 => ∃ al1 M1 a, Stp H al M H1 al1 M1 ∧ Sto X.toGx H1 al1 M1 ∧ Envr X.K H1 al1 M1 σ ρ ∧ R H1 al1 M1 a v ∧ PoS X W D H1 al1 M1 (f a M1)) r := by
  cases r with
  | ok a M' => exact fun al' H' v s S' r => ⟨al', M', a, s, S', E.mono S s, r, p.step s⟩
  | err c fs M' => exact fun al' H' cls dd s S' x => p al' H' σ cls dd s S' (E.mono S s) x
  | stuck => exact p
/-- a statement that begins with an expression -/
theorem tS_ex {f : Rho → Store → Res α} {g : Rho → α → Store → Out} (h : tS X W (fun ρ M => withE (f ρ M) ρ fun a M1 => g ρ a M1) D σ H) :
    tG X R W f σ H (fun v H1 => ∃ al ρ M a, Sto X.toGx H1 al M ∧ Envr X.K H1 al M σ ρ ∧ R H1 al M a v ∧ PoS X W D H1 al M (g ρ a M)) := by
  obtain ⟨al, ρ, M, S, E, p⟩ := h
  refine ⟨al, ρ, M, S, E, (PoS.ex S E p).mono ?_⟩
  rintro v H1 ⟨al1, M1, a, s, S1, E1, r, p1⟩
  exact ⟨al1, ρ, M1, a, S1, E1, r, p1⟩
end

section
variable {Z : Gz} {n : Nat} {cx : Cx} {c : Ck} {W : WX} {pos : Pos}
noncomputable abbrev rnS (Z : Gz) (n : Nat) (x : Sm) : Rho → Store → Out := fun ρ M => runS Z.P Z.wf (callF Z.P Z.wf n) x ρ M
noncomputable abbrev rnSs (Z : Gz) (n : Nat) (x : Sms) : Rho → Store → Out := fun ρ M => runSs Z.P Z.wf (callF Z.P Z.wf n) x ρ M
abbrev PSz (Z : Gz) (n : Nat) (cx : Cx) (W : WX) (x : Sm) (s : Stmt) : Prop := PS cx s (tS Z.toGy W (rnS Z n x))
abbrev PSsz (Z : Gz) (n : Nat) (cx : Cx) (W : WX) (x : Sms) (s : List Stmt) : Prop := PSs cx s (tS Z.toGy W (rnSs Z n x))
end
end G
namespace L2
open PySem PySem.Spec PyProof.Rows
theorem PS.imp {cx : Cx} {e : Stmt} {t t' : TS} (h : PS cx e t) (i : ∀ D σ H, t' D σ H → t D σ H) : PS cx e t' := ⟨fun pins s σ H D I q => h.run pins s σ H D I (i D σ H q)⟩
theorem PSs.imp {cx : Cx} {e : List Stmt} {t t' : TS} (h : PSs cx e t) (i : ∀ D σ H, t' D σ H → t D σ H) : PSs cx e t' := ⟨fun pins s σ H D I q => h.run pins s σ H D I (i D σ H q)⟩
end L2
namespace G
open PySem PySem.Spec PyProof.Rows L2
def isName : Expr → Bool | .Name .. => true | _ => false
theorem sw_other {t v : Expr} {l : Nat} {env : Env} (h : isName t = false) : swapsWithSole [t] v l env = pure false := by
  show swapsWith v (some t) l env = pure false
  cases v <;> first | rfl | (cases t <;> first | rfl | cases h)
theorem sw_cell {v : Expr} {x : Str} {p : Pos} {l : Nat} {env : Env} (h : env.kindOf x ≠ some .local) : swapsWith v (some (.Name x p)) l env = pure false := by
  have hk : (env.kindOf x == some NameKind.local) = false := by
    cases q : env.kindOf x with
    | none => rfl
    | some k => cases k <;> first | rfl | exact absurd q h
  cases v <;> first
    | rfl
    | (unfold swapsWith; simp only [hk, Bool.and_false, Bool.false_and]; try rfl)
def isTup : Expr → Bool | .Tuple .. => true | .List .. => true | _ => false
theorem swapped_other {t e : Expr} {env : Env} (h : isTup t = false) : swappedStores [t] e env = pure none := by
  cases t <;> first | (cases e <;> rfl) | cases h
section
variable {Z : Gz} {n : Nat} {cx : Cx} {c : Ck} {W : WX} {pos : Pos}
theorem z_nev {s : Stmt} : PSz Z n cx W .nev s := ps_never.imp fun D σ H h => by
  obtain ⟨al, ρ, M, S, E, p⟩ := h
  unfold rnS at p; simp only [runS] at p
  exact p
theorem z_nilS : PSsz Z n cx W .nil [] := pss_nil.imp fun D σ H h => by
  obtain ⟨al, ρ, M, S, E, p⟩ := h
  unfold rnSs at p; simp only [runSs] at p
  exact p.nxt S E
theorem z_consS {a : Sm} {r : Sms} {s : Stmt} {ss : List Stmt} (ha : PSz Z n cx W a s) (hr : PSsz Z n cx W r ss) : PSsz Z n cx W (.cons a r) (s :: ss) := (pss_cons ha hr).imp fun D σ H h => by
  obtain ⟨al, ρ, M, S, E, p⟩ := h
  unfold rnSs at p; simp only [runSs] at p
  refine ⟨al, ρ, M, S, E, ?_⟩
  show PoS _ _ _ _ _ _ (runS Z.P Z.wf (callF Z.P Z.wf n) a ρ M)
  revert p
  match runS Z.P Z.wf (callF Z.P Z.wf n) a ρ M with
  | some (.nx ρ', M') => exact fun p al' H' σ' s S' E' => ⟨al', ρ', M', S', E', PoS.step p s⟩
  | some (.bk ρ', M') => exact fun p => p
  | some (.ct ρ', M') => exact fun p => p
  | some (.rt d, M') => exact fun p => p
  | some (.er c fs ρ', M') => exact fun p => p
  | none => exact fun p => p
theorem z_brk : PSz Z n cx W .brk (.Break pos) := ps_break.imp fun D σ H h => by
  obtain ⟨al, ρ, M, S, E, p⟩ := h
  unfold rnS at p; simp only [runS] at p
  exact p al H σ Stp.refl S E
theorem z_ctn : PSz Z n cx W .ctn (.Continue pos) := ps_continue.imp fun D σ H h => by
  obtain ⟨al, ρ, M, S, E, p⟩ := h
  unfold rnS at p; simp only [runS] at p
  exact p al H σ Stp.refl S E
theorem z_pass : PSz Z n cx W .pass (.Pass pos) := ps_pass.imp fun D σ H h => by
  obtain ⟨al, ρ, M, S, E, p⟩ := h
  unfold rnS at p; simp only [runS] at p
  exact p.nxt S E
theorem z_retN : PSz Z n cx W .retN (.Return none pos) := ps_retN.imp fun D σ H h => by
  obtain ⟨al, ρ, M, S, E, p⟩ := h
  unfold rnS at p; simp only [runS] at p
  exact p al H .non Stp.refl S non_rep
theorem z_ret {a : Xp} {e : Expr} (ha : PEz Z n cx W a e) : PSz Z n cx W (.ret a) (.Return (some e) pos) := (ps_ret ha).imp fun D σ H h => by
  unfold rnS at h; simp only [runS] at h
  refine (tS_ex (R := rE Z.toGy) h).mono ?_
  rintro v H1 ⟨al, ρ, M, d, S, E, r, p⟩
  exact p al H1 v Stp.refl S r
theorem z_ex {a : Xp} {e : Expr} (hn : noComp e = true) (ha : PEz Z n cx W a e) : PSz Z n cx W (.ex a) (.Expr e pos) := (ps_expr ha (noComp_of hn)).imp fun D σ H h => by
  unfold rnS at h; simp only [runS] at h
  refine (tS_ex (R := rE Z.toGy) h).mono ?_
  rintro v H1 ⟨al, ρ, M, d, S, E, r, p⟩
  exact p.nxt S E
theorem z_ite {t : Tp} {a b : Sms} {q : Expr} {xs ys : List Stmt} (ht : PTz Z n cx W t q) (ha : PSsz Z n cx W a xs) (hb : PSsz Z n cx W b ys) : PSz Z n cx W (.ite t a b) (.If q xs ys pos) := (ps_if ht ha hb).imp fun D σ H h => by
  unfold rnS at h; simp only [runS] at h
  refine (tS_ex (R := rId) (f := rnT Z n t) (g := fun ρ k M1 => match k with | true => rnSs Z n a ρ M1 | false => rnSs Z n b ρ M1) h).mono ?_
  rintro k H1 ⟨al, ρ, M, k', S, E, e, p⟩
  cases e
  cases k with
  | true => exact (if_pos rfl).mpr ⟨al, ρ, M, S, E, p⟩
  | false => exact (if_neg (by simp)).mpr ⟨al, ρ, M, S, E, p⟩
/-- name = value, or a pattern of names -/
theorem asg_sem {gp : Gp} {a : Xp} {D : Ends} {σ : L2.St} {H : Hp} (h : tS Z.toGy W (rnS Z n (.asg gp a)) D σ H) : tE Z.toGy W (rnE Z n a) σ H fun x H1 => tGp Z gp x σ H1 D.nx := by
  unfold rnS at h; simp only [runS] at h
  refine (tS_ex (R := rE Z.toGy) (g := fun ρ d M1 => match bindG gp d ρ with | some ρ' => some (.nx ρ', M1) | none => none) h).mono ?_
  rintro v H1 ⟨al, ρ, M, d, S, E, r, p⟩
  cases q : bindG gp d ρ with
  | none => simp only [q] at p; exact p.elim
  | some ρ' =>
    simp only [q] at p
    exact ⟨al, ρ, M, d, ρ', S, E, r, q, fun σ' E' _ => p.nxt S E'⟩
theorem z_asg {gp : Gp} {a : Xp} {tg e : Expr} (hg : PG cx tg (tGp Z gp)) (ha : PEz Z n cx W a e) (hs : swapsWithSole [tg] e pos.line cx.env = pure false) (hw : swappedStores [tg] e cx.env = pure none) (hst : noStar tg = true) : PSz Z n cx W (.asg gp a) (.Assign [tg] e pos) :=
  (ps_asg ha hg hs hw (assignEach_one hst)).imp fun D σ H h => asg_sem h
theorem z_asgF {o a : Xp} {f : Nat} {l e : Expr} {x : Str} {p' : Pos} (g : Good Z c cx n) (hm : c.nmd f x = true) (ho : PEz Z n cx W o l) (ha : PEz Z n cx W a e) : PSz Z n cx W (.asgF o f a) (.Assign [.Attribute l x p'] e pos) :=
  (ps_fld (f := x) ho ha (sw_other (t := .Attribute l x p') (l := pos.line) (env := cx.env) rfl)).imp fun D σ H h => by
    obtain ⟨rfl, hml⟩ := Ck.nmd_of g.P hm
    unfold rnS at h; simp only [runS] at h
    obtain ⟨al, ρ, M, S, E, p⟩ := h
    refine ⟨al, ρ, M, S, E, (PoS.ex (R := rE Z.toGy) S E p).mono ?_⟩
    rintro y H1 ⟨al1, M1, d, s1, S1, E1, r1, p1⟩
    refine ⟨al1, ρ, M1, S1, E1, (PoS.ex (R := rE Z.toGy) S1 E1 p1).mono ?_⟩
    rintro v H2 ⟨al2, M2, b, s2, S2, E2, r2, p2⟩
    have r1' := Rep.mono S1 s2 _ _ r1
    split at p2
    · rename_i m
      split at p2
      · rename_i k fs e
        split at p2
        · rename_i hf
          obtain ⟨a, dx, vfs, rfl, hget, hH, hfs, hlt, hlv⟩ := ins_at S2 r2 e
          have hF := hf.1
          unfold hasF at hF
          split at hF
          · rename_i kl ek
            have hno := g.lnk.noat k kl f ek (by simpa using hF)
            have hcl := g.lnk.cls k kl ek
            have hlen : vfs.length = fs.length := by
              have : ∀ {fs : List (Nat × G.D)} {vfs : List (Str × V)}, Fsr Z.nm Z.K H2 al2 M2 fs vfs → vfs.length = fs.length := by
                intro fs
                induction fs with
                | nil => intro vfs h; rw [show vfs = [] from h]; rfl
                | cons p fs ih =>
                  intro vfs h
                  obtain ⟨v, r, e, _, h2⟩ := h
                  rw [e, List.length_cons, List.length_cons, ih h2]
              exact this hfs
            refine ⟨a, Z.cl k, dx, vfs, rfl, hH, hcl, hno, by rw [hlen]; omega, ?_⟩
            have hset := Fsr.set (X := Z.toGx) g.lnk.nms hml r1' hlt hfs
            have st : Stp H2 al2 M2 (upd H2 a (.ins (Z.cl k) dx (putF (Z.nm f) y vfs))) al2 (M2.set m (.ins k (setF f d fs))) := Stp.chg S2 hlv hget
            exact p2 al2 _ σ st (S2.chg hlv hget ⟨dx, _, upd_same, Fsr.mono S2 st _ _ hset.1, hset.2⟩) (E2.mono S2 st)
          · cases hF
        · exact p2.elim
      · exact p2.elim
    · exact p2.elim
/-- o[i] = v of a list or a dict -/
def rSetLD : TSet := fun o i v H Q => rSetL o i v H Q ∨ rSetD o i v H Q
theorem set_ld {X : Cx} (hu : X.A.units + 1 < cLine) : PSet X rSetLD := by
  intro pins s σ H o i v ov iv u Q I ro ri rv h
  rcases h with h | h
  · exact set_list pins s σ H o i v ov iv u Q I ro ri rv h
  · exact set_dict hu pins s σ H o i v ov iv u Q I ro ri rv h
theorem dput_at {X : Gy} {H : Hp} {al : Am} {M : Store} {m : Nat} {y d : G.D} {u v w : V} {tk : Bool} {kvs : List (G.D × G.D)} (S : Sto X.toGx H al M) (rx : Rep X.K H al M (.ptr m) u) (ry : Rep X.K H al M y v) (rd : Rep X.K H al M d w) (e : M[m]? = some (.dic tk kvs)) (hk : isKey tk y = true) (hl : kvs.length < big) :
    ∃ a H4, u = .ref a ∧ al.ad[m]? = some a ∧ live M m ∧ DPut H a v w H4 ∧ Stp H al M H4 al (M.set m (.dic tk (dput kvs y d))) ∧ Sto X.toGx H4 al (M.set m (.dic tk (dput kvs y d))) := by
  rw [Rep] at rx
  obtain ⟨a, rfl, ha⟩ := rx
  obtain ⟨z, h1, h2⟩ := S.at_ m _ a e ha
  have hlv : live M m := ⟨_, e, rfl⟩
  cases tk with
  | false =>
    obtain ⟨xs, rfl, r⟩ := h2
    obtain ⟨k, rfl⟩ := isKey1_ex hk
    obtain rfl := kV_rep ry
    have st : Stp H al M (upd H a (.dK (putK xs k w))) al (M.set m (.dic false (dput kvs (kD k) d))) := Stp.chg S hlv ha
    refine ⟨a, _, rfl, ha, hlv, .inl ⟨xs, k, h1, rfl, by rw [r.length]; exact hl, rfl⟩, st, S.chg hlv ha ⟨_, upd_same, ?_⟩⟩
    exact ⟨_, rfl, (r.put eqd_kD k rd).mono S st⟩
  | true =>
    obtain ⟨xs, rfl, r⟩ := h2
    cases y with
    | tup ds =>
      obtain ⟨ks, rfl⟩ := isKey1s_ex hk
      obtain ⟨b, vs, rfl, hb, rs⟩ := tup_at ry
      obtain rfl := kVs_rep rs
      have st : Stp H al M (upd H a (.dT (putK xs ks w))) al (M.set m (.dic true (dput kvs (tD ks) d))) := Stp.chg S hlv ha
      refine ⟨a, _, rfl, ha, hlv, .inr ⟨xs, ks, b, h1, rfl, hb, by rw [r.length]; exact hl, rfl⟩, st, S.chg hlv ha ⟨_, upd_same, ?_⟩⟩
      exact ⟨_, rfl, (r.put eqd_tD ks rd).mono S st⟩
    | _ => cases hk
theorem z_asgI {o i a : Xp} {l r e : Expr} {p' : Pos} (g : Good Z c cx n) (hsl : noSlice r = true) (ho : PEz Z n cx W o l) (hi : PEz Z n cx W i r) (ha : PEz Z n cx W a e) : PSz Z n cx W (.asgI o i a) (.Assign [.Subscript l r p'] e pos) :=
  (ps_asg ha (pg_sub ho hi (set_ld (by have := g.units; omega)) (by intro v; cases r <;> first | rfl | cases hsl)) (sw_other rfl) (swapped_other rfl) rfl).imp fun D σ H h => by
    unfold rnS at h; simp only [runS] at h
    obtain ⟨al, ρ, M, S, E, p⟩ := h
    refine ⟨al, ρ, M, S, E, (PoS.ex (R := rE Z.toGy) S E p).mono ?_⟩
    rintro y H1 ⟨al1, M1, d, s1, S1, E1, r1, p1⟩
    refine ⟨al1, ρ, M1, S1, E1, (PoS.ex (R := rE Z.toGy) S1 E1 p1).mono ?_⟩
    rintro v H2 ⟨al2, M2, b, s2, S2, E2, r2, p2⟩
    refine ⟨al2, ρ, M2, S2, E2, (PoS.ex (R := rE Z.toGy) S2 E2 p2).mono ?_⟩
    rintro u H3 ⟨al3, M3, j, s3, S3, E3, r3, p3⟩
    have r1' := Rep.mono S1 (s2.trans s3) _ _ r1
    have r2' := Rep.mono S2 s3 _ _ r2
    split at p3
    · rename_i y0 m
      split at p3
      · rename_i xs e
        split at p3
        · rename_i k
          split at p3
          · rename_i jj ej
            obtain ⟨a, vs, rfl, hget, hH, hr, hlv⟩ := ptr_at (X := Z.toGy) S3 r2' e
            cases rep_int (X := Z.toGy) r3
            refine .inl ⟨a, vs, k, jj, rfl, rfl, hH, by rw [hr.length]; exact ej, ?_⟩
            have st : Stp H3 al3 M3 (upd H3 a (.lst (vs.set jj y))) al3 (M3.set m (.lst (xs.set jj d))) := Stp.chg S3 hlv hget
            exact p3 al3 _ σ st (S3.chg hlv hget ⟨_, upd_same, Reps.mono S3 st _ _ (Reps.setl r1' jj hr)⟩) (E3.mono S3 st)
          · exact p3.elim
        · exact p3.elim
      · rename_i tk kvs e
        split at p3
        · rename_i hk
          obtain ⟨a, H4, rfl, hget, hlv, hput, hst, hS⟩ := dput_at (X := Z.toGy) (d := d) S3 r2' r3 r1' e hk.1 hk.2
          exact .inr ⟨a, H4, rfl, hput, p3 al3 H4 σ hst hS (E3.mono S3 hst)⟩
        · exact p3.elim
      · exact p3.elim
    · exact p3.elim
theorem z_aug {i : Nat} {op : Bop} {a : Xp} {e : Expr} {x : Str} {p' : Pos} (g : Good Z c cx n) (ht : c.tgt i x = true) (hop : op = .add ∨ op = .sub) (ha : PEz Z n cx W a e) : PSz Z n cx W (.aug i op a) (.AugAssign (.Name x p') (astB op) e pos) := by
  obtain ⟨h1, h2, h3⟩ := Ck.tgt_of g ht
  have key : ∀ {f : Int → Int → Int} {k : Bop}, (∀ a b : Int, ∀ (ρ : Rho) (M1 : Store), (match k with | .add => some (Fl.nx (ρ.set i (some (.int (a + b)))), M1) | .sub => some (.nx (ρ.set i (some (.int (a - b)))), M1) | _ => none) = some (Fl.nx (ρ.set i (some (.int (f a b)))), M1)) → ∀ D σ H, tS Z.toGy W (rnS Z n (.aug i k a)) D σ H → tAug i (tE Z.toGy W (rnE Z n a)) (ipI f) D σ H := by
    intro f k hf D σ H h
    unfold rnS at h; simp only [runS] at h
    obtain ⟨al, ρ, M, S, E, p⟩ := h
    dsimp only at p
    split at p
    · rename_i x e1
      obtain ⟨v, hv, rv⟩ := E.at_ i x e1
      refine ⟨v, hv, al, ρ, M, S, E, (PoS.ex (R := rE Z.toGy) S E p).mono ?_⟩
      rintro y H1 ⟨al1, M1, d, s1, S1, E1, r1, p1⟩
      have rv' := Rep.mono S s1 _ _ rv
      split at p1
      · rename_i a b
        cases rep_int (X := Z.toGy) r1
        cases rep_int (X := Z.toGy) rv'
        refine ⟨a, b, rfl, rfl, ?_⟩
        exact PoS.nxt S1 (E1.set (by rw [Rep]) i) ((congrArg (PoS Z.toGy W D H1 al1 M1) (hf a b ρ M1)).mp p1)
      · exact p1.elim
    · exact p.elim
  rcases hop with rfl | rfl
  · exact (ps_aug (by rw [g.N]; exact g.nd) h1 h2 ha ip_add h3).imp (key fun a b ρ M1 => rfl)
  · exact (ps_aug (by rw [g.N]; exact g.nd) h1 h2 ha ip_sub h3).imp (key fun a b ρ M1 => rfl)
end
end G

/-! GLok -/
set_option maxRecDepth 100000
set_option maxHeartbeats 4000000
namespace G
open PySem PySem.Spec PyProof.Rows L2
section
variable {X : Gy} {K : PySem.W.Frag} {H H' : Hp} {al al' : Am} {M M' : Store} {d : Addr} {od : Obj} {u : HO} {n : Nat} {tk : Bool} {kvs : List (G.D × G.D)}
theorem Dcr.isd {w : HO} (h : Dcr tk K H al M kvs w) : (∃ xs, w = .dK xs) ∨ ∃ xs, w = .dT xs := by
  cases tk with
  | false => obtain ⟨xs, e, _⟩ := h; exact .inl ⟨xs, e⟩
  | true => obtain ⟨xs, e, _⟩ := h; exact .inr ⟨xs, e⟩
/-- behind the loop: the heap with the dict given free -/
structure Unl (H' : Hp) (al' : Am) (M' : Store) (d : Addr) (od : Obj) (u : HO) (n : Nat) (tk : Bool) (kvs : List (G.D × G.D)) : Prop where
  at_ : al'.ad[n]? = some d
  fz : H' d = some (.frz od u)
  isd : (∃ xs, u = .dK xs) ∨ ∃ xs, u = .dT xs
  st : M'[n]? = some (.fdic tk kvs)
theorem Unl.nel (h : Unl H' al' M' d od u n tk kvs) {a : Addr} {vs : List V} (e : H' a = some (.lst vs)) : a ≠ d := by rintro rfl; rw [h.fz] at e; cases e
theorem Unl.net (h : Unl H' al' M' d od u n tk kvs) {a : Addr} {vs : List V} (e : H' a = some (.tup vs)) : a ≠ d := by rintro rfl; rw [h.fz] at e; cases e
theorem Unl.hot (h : Unl H' al' M' d od u n tk kvs) {a : Addr} (ha : a ≠ d) (hh : Hot al' (M'.set n (.dic tk kvs)) a) : Hot al' M' a := by
  rcases hh with ⟨k, hk, e⟩ | hp
  · by_cases q : n = k
    · subst q
      rw [h.at_] at e
      exact absurd (Option.some.inj e).symm ha
    · obtain ⟨o, e1, ho⟩ := hk
      rw [List.getElem?_set_ne q] at e1
      exact .inl ⟨k, ⟨o, e1, ho⟩, e⟩
  · exact .inr hp
mutual
theorem Rep.unl (h : Unl H' al' M' d od u n tk kvs) : ∀ (x : G.D) (v : V), Rep K H' al' M' x v → Rep K (upd H' d u) al' (M'.set n (.dic tk kvs)) x v
  | .non, _, r => by rw [Rep] at r ⊢; exact r
  | .bl _, _, r => by rw [Rep] at r ⊢; exact r
  | .int _, _, r => by rw [Rep] at r ⊢; exact r
  | .str _, _, r => by rw [Rep] at r ⊢; exact r
  | .tup ds, v, r => by
    rw [Rep] at r ⊢
    obtain ⟨a, vs, e, h1, h2⟩ := r
    exact ⟨a, vs, e, by rw [upd_ne (h.net h1)]; exact h1, Reps.unl h ds vs h2⟩
  | .lst ds, v, r => by
    rw [Rep] at r ⊢
    obtain ⟨a, vs, e, h1, h2, h3⟩ := r
    exact ⟨a, vs, e, by rw [upd_ne (h.nel h1)]; exact h1, fun q => h2 (h.hot (h.nel h1) q), Reps.unl h ds vs h3⟩
  | .scr ns, v, r => by
    rw [Rep] at r ⊢
    obtain ⟨a, e, h1⟩ := r
    refine ⟨a, e, ?_⟩
    rcases h1 with ⟨h1, h2⟩ | ⟨o, h1⟩ | h1
    · exact .inl ⟨by rw [upd_ne (h.nel h1)]; exact h1, fun q => h2 (h.hot (h.nel h1) q)⟩
    · refine .inr (.inl ⟨o, ?_⟩)
      rw [upd_ne]; exact h1
      rintro rfl
      rw [h.fz] at h1
      rcases h.isd with ⟨xs, rfl⟩ | ⟨xs, rfl⟩ <;> cases h1
    · exact .inr (.inr h1)
  | .ptr m, v, r => by rw [Rep] at r ⊢; exact r
theorem Reps.unl (h : Unl H' al' M' d od u n tk kvs) : ∀ (xs : List G.D) (vs : List V), Reps K H' al' M' xs vs → Reps K (upd H' d u) al' (M'.set n (.dic tk kvs)) xs vs
  | [], _, r => by rw [Reps] at r ⊢; exact r
  | x :: xs, vs, r => by
    rw [Reps] at r ⊢
    obtain ⟨v, r', e, h1, h2⟩ := r
    exact ⟨v, r', e, Rep.unl h x v h1, Reps.unl h xs r' h2⟩
end
theorem Fsr.unl {nm : Nat → Str} (h : Unl H' al' M' d od u n tk kvs) : ∀ (fs : List (Nat × G.D)) (vs : List (Str × V)), Fsr nm K H' al' M' fs vs → Fsr nm K (upd H' d u) al' (M'.set n (.dic tk kvs)) fs vs
  | [], _, r => r
  | p :: ds, vs, r => by
    obtain ⟨v, r', e, h1, h2⟩ := r
    exact ⟨v, r', e, Rep.unl h _ v h1, Fsr.unl h ds r' h2⟩
theorem Dr.unl {κ : Type} {kf : κ → G.D} (h : Unl H' al' M' d od u n tk kvs) : ∀ (ds : List (G.D × G.D)) (vs : List (κ × V)), Dr kf K H' al' M' ds vs → Dr kf K (upd H' d u) al' (M'.set n (.dic tk kvs)) ds vs
  | [], _, r => r
  | p :: ds, vs, r => by
    obtain ⟨k, v, r', e, hk, h1, h2⟩ := r
    exact ⟨k, v, r', e, hk, Rep.unl h _ v h1, Dr.unl h ds r' h2⟩
theorem Dcr.unl {tk' : Bool} {kv' : List (G.D × G.D)} {w : HO} (h : Unl H' al' M' d od u n tk kvs) (r : Dcr tk' K H' al' M' kv' w) : Dcr tk' K (upd H' d u) al' (M'.set n (.dic tk kvs)) kv' w := by
  cases tk' with
  | false => obtain ⟨xs, e, r⟩ := r; exact ⟨xs, e, r.unl h⟩
  | true => obtain ⟨xs, e, r⟩ := r; exact ⟨xs, e, r.unl h⟩
theorem Envr.unl {σ : L2.St} {ρ : Rho} (h : Unl H' al' M' d od u n tk kvs) (E : Envr K H' al' M' σ ρ) : Envr K (upd H' d u) al' (M'.set n (.dic tk kvs)) σ ρ :=
  ⟨E.len, fun i x e => let ⟨v, e1, r⟩ := E.at_ i x e; ⟨v, e1, Rep.unl h _ _ r⟩⟩
theorem Sto.unl (S : Sto X.toGx H' al' M') (h : Unl H' al' M' d od u n tk kvs) : Sto X.toGx (upd H' d u) al' (M'.set n (.dic tk kvs)) := by
  have hn : n < M'.length := (List.getElem?_eq_some_iff.mp h.st).1
  -- a hot place is not at d
  have nd : ∀ (k : Nat) (o : Ob) (a : Addr), M'[k]? = some o → o.hot = true → al'.ad[k]? = some a → a ≠ d := fun k o a e ho ha => by
    rintro rfl
    rcases S.hot (.inl ⟨k, ⟨o, e, ho⟩, ha⟩) with ⟨_, q⟩ | ⟨_, _, _, q⟩ | ⟨_, q⟩ | ⟨_, q⟩ <;> rw [h.fz] at q <;> cases q
  have lv : ∀ k, n ≠ k → live (M'.set n (.dic tk kvs)) k → live M' k := fun k q hk => by
    obtain ⟨o, e1, ho⟩ := hk
    rw [List.getElem?_set_ne q] at e1
    exact ⟨o, e1, ho⟩
  refine ⟨by simp [S.len], fun k o a e ha => ?_, fun i j a hi hj ei ej => ?_, fun a ha => ?_, fun k a hk e hp => ?_, tabs_upd S.tabs (fun w e => by rw [h.fz] at e; cases e; exact ⟨fun _ h => (by cases h), fun _ _ h => (by unfold LamX.CodeO at h; cases h)⟩)⟩
  · by_cases q : n = k
    · subst q
      rw [List.getElem?_set_self hn] at e
      cases e
      rw [h.at_] at ha
      cases ha
      obtain ⟨o', u', e1, r⟩ := S.at_ n _ d h.st h.at_
      rw [h.fz] at e1
      cases e1
      exact ⟨u, upd_same, r.unl h⟩
    · rw [List.getElem?_set_ne q] at e
      have old := S.at_ k o a e ha
      cases o with
      | dead => trivial
      | lst ds => obtain ⟨vs, e1, r⟩ := old; exact ⟨vs, by rw [upd_ne (h.nel e1)]; exact e1, Reps.unl h _ _ r⟩
      | ins c fs => obtain ⟨dx, vfs, e1, r, q'⟩ := old; exact ⟨dx, vfs, by rw [upd_ne (nd k _ a e rfl ha)]; exact e1, Fsr.unl h _ _ r, q'⟩
      | dic tk' kv' => obtain ⟨w, e1, r⟩ := old; exact ⟨w, by rw [upd_ne (nd k _ a e rfl ha)]; exact e1, r.unl h⟩
      | fdic tk' kv' =>
        -- two frozen places are not one: the second one would have been locked again
        obtain ⟨o, w, e1, r⟩ := old
        by_cases qa : a = d
        · subst qa
          exact absurd (S.inj n k a ⟨_, h.st, by simp⟩ ⟨_, e, by simp⟩ h.at_ ha) q
        · exact ⟨o, w, by rw [upd_ne qa]; exact e1, r.unl h⟩
  · have nl : ∀ k, ndl (M'.set n (.dic tk kvs)) k → ndl M' k := fun k hk => by
      by_cases q : n = k
      · subst q; exact ⟨_, h.st, by simp⟩
      · obtain ⟨o, e1, ho⟩ := hk
        rw [List.getElem?_set_ne q] at e1
        exact ⟨o, e1, ho⟩
    exact S.inj i j a (nl i hi) (nl j hj) ei ej
  · obtain ⟨vs, e⟩ := S.pvl a ha
    exact ⟨vs, by rw [upd_ne (h.nel e)]; exact e⟩
  · by_cases q : n = k
    · subst q
      rw [h.at_] at e
      cases e
      obtain ⟨vs, e'⟩ := S.pvl d hp
      exact h.nel e' rfl
    · exact S.pvd k a (lv k q hk) e hp
/-- the whole of it: locked, run, given free -/
theorem Stp.unl {ob : Ob} {tk' : Bool} {kv' : List (G.D × G.D)} (S : Sto X.toGx H al M) (hl : live M n) (ha : al.ad[n]? = some d) (s : Stp (upd H d (.frz od u)) al (M.set n (.fdic tk' kv')) H' al' M') (hu : ∀ ps, u ≠ .tbl ps) : Stp H al M (upd H' d u) al' (M'.set n ob) := by
  have hpv : ¬ al.pv d := S.pvd n d hl ha
  have n1 : ∀ a, ¬ Hot al M a → ¬ Hot al (M.set n (.fdic tk' kv')) a := fun a h q => by
    rcases q with ⟨k, hk, e⟩ | q
    · exact h (.inl ⟨k, live_set hl k hk, e⟩)
    · exact h (.inr q)
  refine ⟨s.pre, s.pv, fun a h => ?_, fun a o e h ht => ?_, fun a h => ?_, fun k hk h => ?_, fun k a hk e => ?_⟩
  · have : a ≠ d := by rintro rfl; exact hpv h
    rw [upd_ne this, s.pvk a h, upd_ne this]
  · have : a ≠ d := by rintro rfl; exact h (.inl ⟨n, hl, ha⟩)
    rw [upd_ne this]
    exact s.keep a o (by rw [upd_ne this]; exact e) (n1 a h) ht
  · by_cases q : a = d
    · subst q; rw [upd_same]; exact sol_some hu
    · rw [upd_ne q]
      exact s.dom a (by rw [upd_ne q]; exact h)
  · by_cases q : n = k
    · subst q; exact hl
    · have : live M' k := by
        obtain ⟨o, e1, ho⟩ := h
        rw [List.getElem?_set_ne q] at e1
        exact ⟨o, e1, ho⟩
      exact live_set hl k (s.alive k hk this)
  · have h1 := s.new k a hk e
    by_cases q : a = d
    · subst q; rw [upd_same] at h1; exact absurd (sol_some fun _ h => by cases h) h1
    · rw [upd_ne q] at h1; exact h1
/-- the locked dict's address is nobody's to change -/
theorem lock_cold {tk' : Bool} {kv' : List (G.D × G.D)} (S : Sto X.toGx H al M) (hl : live M n) (ha : al.ad[n]? = some d) : ¬ Hot al (M.set n (.fdic tk' kv')) d := by
  rintro (⟨k, hk, e⟩ | hp)
  · have : n = k := S.inj n k d hl.nd (live_set hl k hk).nd ha e
    subst this
    obtain ⟨o, e1, ho⟩ := hk
    rw [List.getElem?_set_self (live_lt hl)] at e1
    cases e1
    cases ho
  · exact S.pvd n d hl ha hp
/-- the ends while the dict is locked -/
def lockD (D : Ends) (d : Addr) (od : Obj) (u : HO) : Ends := ⟨fun σ' H' => H' d = some (.frz od u) ∧ D.nx σ' (upd H' d u), fun v H' => H' d = some (.frz od u) ∧ D.rt v (upd H' d u), fun σ' H' => H' d = some (.frz od u) ∧ D.bk σ' (upd H' d u), fun σ' H' => H' d = some (.frz od u) ∧ D.ct σ' (upd H' d u)⟩
theorem PoS.unl {W : WX} {D : Ends} {o : Out} {tk' : Bool} {kv' : List (G.D × G.D)} (S : Sto X.toGx H al M) (hl : live M n) (ha : al.ad[n]? = some d) (hi : (∃ xs, u = .dK xs) ∨ ∃ xs, u = .dT xs) (p : PoS X W D H al M (unlk n o)) :
    PoS X W (lockD D d od u) (upd H d (.frz od u)) al (M.set n (.fdic tk' kv')) o := by
  have fz : ∀ {H' : Hp} {al' : Am} {M' : Store}, Stp (upd H d (.frz od u)) al (M.set n (.fdic tk' kv')) H' al' M' → H' d = some (.frz od u) := fun s => s.keep d _ upd_same (lock_cold S hl ha) (fun _ h => by cases h)
  have hu : ∀ ps, u ≠ .tbl ps := by rcases hi with ⟨xs, e⟩ | ⟨xs, e⟩ <;> rw [e] <;> intro _ z <;> cases z
  match o with
  | some (.nx ρ, M') =>
    simp only [unlk] at p
    split at p
    · rename_i tk kvs e
      intro al' H' σ' s S' E
      have U : Unl H' al' M' d od u n tk kvs := ⟨s.get ha, fz s, hi, e⟩
      exact ⟨fz s, p al' _ σ' (Stp.unl S hl ha s hu) (S'.unl U) (E.unl U)⟩
    · exact p.elim
  | some (.rt x, M') =>
    simp only [unlk] at p
    split at p
    · rename_i tk kvs e
      intro al' H' v s S' r
      have U : Unl H' al' M' d od u n tk kvs := ⟨s.get ha, fz s, hi, e⟩
      exact ⟨fz s, p al' _ v (Stp.unl S hl ha s hu) (S'.unl U) (Rep.unl U _ _ r)⟩
    · exact p.elim
  | some (.bk ρ, M') => exact p.elim
  | some (.ct ρ, M') => exact p.elim
  | some (.er c fs ρ, M') => exact p.elim
  | none => exact p.elim
end
end G

/-! GStn -/
set_option maxRecDepth 100000
set_option maxHeartbeats 4000000
namespace L2
open PySem PySem.Spec PyProof.Rows
theorem get_lst {X : Cx} : PGet X (rIxL X.K) := by
  intro pins s σ H x y v u Q I rx ry h
  obtain ⟨p, xs, i, z, rfl, rfl, hq, he, q⟩ := h
  cases rx
  obtain ⟨t, rfl⟩ := ry
  obtain ⟨its, r, pl, hz⟩ := I.list hq
  obtain ⟨j, g1, g2, g3, g4, g5⟩ := atI_get he
  obtain ⟨w, ew, hw⟩ := r.get g2
  have hl := r.length
  have hn := line63
  have fin : EP X pins σ Q w s := ⟨z, H, I, hw, q⟩
  by_cases h0 : 0 ≤ i
  · have hj : i.toNat = j := Option.some.inj ((seqIndex_of h0 g5).symm.trans g1)
    exact wpAny_getItem_list pl.isList h0 (by omega) (by rw [hj]; simpa using ew) fin
  · have hj : (i + (its.toArray.size : Int)).toNat = j := by
      rw [seqIndex_neg (by omega) g4] at g1
      rw [List.size_toArray, ← hl]
      exact Option.some.inj g1
    exact wpAny_getItem_list_neg pl.isList (by omega) (by rw [List.size_toArray] <;> omega) (by omega) (by rw [hj]; simpa using ew) fin
end L2
namespace G
open PySem PySem.Spec PyProof.Rows L2
section
variable {Z : Gz} {n : Nat} {cx : Cx} {c : Ck} {W : WX} {pos : Pos}
theorem z_augI {o i a : Xp} {op : Bop} {l r e : Expr} {p' : Pos} (g : Good Z c cx n) (hsl : noSlice r = true) (hop : op = .add ∨ op = .sub) (ho : PEz Z n cx W o l) (hi : PEz Z n cx W i r) (ha : PEz Z n cx W a e) : PSz Z n cx W (.augI o i op a) (.AugAssign (.Subscript l r p') (astB op) e pos) := by
  have key : ∀ {f : Int → Int → Int} {k : Bop}, (∀ (a b : Int) (m j : Nat) (ys : List G.D) (ρ : Rho) (M3 : Store), (match k with | .add => some (Fl.nx ρ, M3.set m (.lst (ys.set j (.int (a + b))))) | .sub => some (Fl.nx ρ, M3.set m (.lst (ys.set j (.int (a - b))))) | _ => none) = some (Fl.nx ρ, M3.set m (.lst (ys.set j (.int (f a b)))))) →
      ∀ D σ H, tS Z.toGy W (rnS Z n (.augI o i k a)) D σ H → tAugS (tE Z.toGy W (rnE Z n o)) (tE Z.toGy W (rnE Z n i)) (tE Z.toGy W (rnE Z n a)) (rIxL cx.K) (ipI f) rSetL D σ H := by
    intro f k hf D σ H h
    unfold rnS at h; simp only [runS] at h
    obtain ⟨al, ρ, M, S, E, p⟩ := h
    refine ⟨al, ρ, M, S, E, (PoS.ex (R := rE Z.toGy) S E p).mono ?_⟩
    rintro y H1 ⟨al1, M1, d, s1, S1, E1, r1, p1⟩
    refine ⟨al1, ρ, M1, S1, E1, (PoS.ex (R := rE Z.toGy) S1 E1 p1).mono ?_⟩
    rintro v H2 ⟨al2, M2, b, s2, S2, E2, r2, p2⟩
    have r1' := Rep.mono S1 s2 _ _ r1
    split at p2
    · rename_i m k2
      split at p2
      · rename_i xs e
        split at p2
        · rename_i x ex
          obtain ⟨a1, vs, rfl, hget, hH, hr, hlv⟩ := ptr_at (X := Z.toGy) S2 r1' e
          cases rep_int (X := Z.toGy) r2
          obtain ⟨w, hw, rw'⟩ := atI_reps hr ex
          refine ⟨a1, vs, k2, w, rfl, rfl, SqL.of hH, hw, ?_⟩
          refine ⟨al2, ρ, M2, S2, E2, (PoS.ex (R := rE Z.toGy) S2 E2 p2).mono ?_⟩
          rintro u H3 ⟨al3, M3, z, s3, S3, E3, r3, p3⟩
          have r1'' := Rep.mono S2 s3 _ _ r1'
          have rx := Rep.mono S2 s3 _ _ rw'
          split at p3
          · rename_i bb
            cases rep_int (X := Z.toGy) r3
            cases rep_int (X := Z.toGy) rx
            split at p3
            · rename_i ys e3
              split at p3
              · rename_i j ej
                obtain ⟨a2, vs2, ea, hget2, hH2, hr2, hlv2⟩ := ptr_at (X := Z.toGy) S3 r1'' e3
                cases ea
                refine ⟨_, _, rfl, rfl, a1, vs2, k2, j, rfl, rfl, hH2, by rw [hr2.length]; exact ej, ?_⟩
                have p4 := (congrArg (PoS Z.toGy W D H3 al3 M3) (hf x bb m j ys ρ M3)).mp p3
                have st : Stp H3 al3 M3 (upd H3 a1 (.lst (vs2.set j (.int (f x bb))))) al3 (M3.set m (.lst (ys.set j (.int (f x bb))))) := Stp.chg S3 hlv2 hget2
                exact p4 al3 _ σ st (S3.chg hlv2 hget2 ⟨_, upd_same, Reps.mono S3 st _ _ (Reps.setl (by rw [Rep]) j hr2)⟩) (E3.mono S3 st)
              · exact p3.elim
            · exact p3.elim
          · exact p3.elim
        · exact p2.elim
      · exact p2.elim
    · exact p2.elim
  have hau : ∀ ov iv new, augStore r ov iv new = (do holding [new, ov, iv] (setItem ov iv new); release [new, ov, iv] []; pure .next) := by
    intro ov iv new
    cases r <;> first | rfl | cases hsl
  rcases hop with rfl | rfl
  · exact (ps_augS ho hi get_lst ha ip_add set_list hau).imp (key fun _ _ _ _ _ _ _ => rfl)
  · exact (ps_augS ho hi get_lst ha ip_sub set_list hau).imp (key fun _ _ _ _ _ _ _ => rfl)

/-- a, b = x, y -/
def parB (c : Ck) (x y : Str) (px py : Pos) (a b : Expr) : Bool :=
  (match c.sc.names.lookup x with | some .local => true | _ => false) && (match c.sc.names.lookup y with | some .local => true | _ => false) && (px.line == py.line) && !(x == y) &&
    !(foldedForSure 8 a && foldedForSure 8 b) && !(constantsAlone 8 a && constantsAlone 8 b) && noStar a && noStar b
def isStar : Expr → Bool | .Starred .. => true | _ => false
theorem par_of {x y : Str} {px py pt p2 : Pos} {kt k2 : Nat} {a b : Expr} {env : Env} (hk : env.scope.kind = .function) (h1 : env.scope.names.lookup x = some .local) (h2 : env.scope.names.lookup y = some .local) (h3 : (px.line == py.line) = true) (h4 : (x == y) = false)
    (h5 : (foldedForSure 8 a && foldedForSure 8 b) = false) (h6 : (constantsAlone 8 a && constantsAlone 8 b) = false) (h7 : noStar a = true) (h8 : noStar b = true) :
    swappedStores [.Tuple [.Name x px, .Name y py] kt pt] (.Tuple [a, b] k2 p2) env = pure (some [x, y]) := by
  have hb : env.blockKind = .function := by unfold Env.blockKind; rw [hk]; rfl
  have kx : env.kindOf x = some .local := h1
  have ky : env.kindOf y = some .local := h2
  have hs1 : ∀ e : Expr, noStar e = true → isStar e = false := by
    intro e h
    cases e <;> first | rfl | (have h' : false = true := h; cases h')
  have hst : List.any [a, b] (fun | .Starred .. => true | _ => false) = false := by
    show (isStar a || (isStar b || false)) = false
    rw [hs1 a h7, hs1 b h8]; rfl
  have h3' : (py.line == px.line) = true := by
    rw [beq_iff_eq] at h3 ⊢; exact h3.symm
  have hyx : (y == x) = false := by
    rw [beq_eq_false_iff_ne] at h4 ⊢; exact h4.symm
  have hpx : (px.line == px.line) = true := beq_self_eq_true _
  have herase : [x, y].eraseDups = [x, y] := by
    rw [List.eraseDups_cons]
    have hf : List.filter (fun b => !b == x) [y] = [y] := by simp [List.filter, hyx]
    rw [hf, List.eraseDups_cons]
    rfl
  unfold swappedStores
  simp only [List.length_cons, List.length_nil, hb, hst, List.head?_cons, Option.map_some, Option.getD_some, Expr.pos]
  show (_ : Sem (Option (List Str))) = _
  have e1 : List.all [a, b] (foldedForSure 8) = false := by simpa [List.all_cons] using h5
  have e2 : List.all [a, b] (constantsAlone 8) = false := by simpa [List.all_cons] using h6
  simp only [List.filterMap_cons, List.filterMap_nil, kx, ky, hpx, h3', beq_self_eq_true, Bool.and_self, if_true, herase, e1, e2]
  exact (if_neg (by decide)).trans ((if_neg (fun h => Bool.false_ne_true (hst.symm.trans h))).trans rfl)
theorem z_par {i j : Nat} {a b : Xp} {e e' : Expr} {x y : Str} {px py pt p2 : Pos} {kt k2 : Nat} (g : Good Z c cx n) (hk : c.sc.kind = .function) (hij : i ≠ j) (hx : c.N[i]? = some x) (hy : c.N[j]? = some y) (hp : parB c x y px py e e' = true) (ha : PEz Z n cx W a e) (hb : PEz Z n cx W b e') :
    PSz Z n cx W (.par i j a b) (.Assign [.Tuple [.Name x px, .Name y py] kt pt] (.Tuple [e, e'] k2 p2) pos) := by
  unfold parB at hp
  simp only [Bool.and_eq_true, Bool.not_eq_true', beq_iff_eq] at hp
  obtain ⟨⟨⟨⟨⟨⟨⟨h1, h2⟩, h3⟩, h4⟩, h5⟩, h6⟩, h7⟩, h8⟩ := hp
  have l1 : cx.env.scope.names.lookup x = some .local := by
    rw [g.sc]
    split at h1
    · assumption
    · cases h1
  have l2 : cx.env.scope.names.lookup y = some .local := by
    rw [g.sc]
    split at h2
    · assumption
    · cases h2
  have hpa : PA cx [e, e'] (tA Z.toGy W (rnA Z n (.cons a (.cons b .nil)))) := z_consA h7 ha (z_consA h8 hb z_nilA)
  refine (ps_par (kt := kt) (pt := pt) (k2 := k2) (pt2 := p2) (px := px) (py := py) g.calm (by rw [g.N]; exact g.nd) (by rw [g.N]; exact hx) (by rw [g.N]; exact hy) hij l1 l2 hpa
    (par_of (by rw [g.sc]; exact hk) l1 l2 (by simpa using h3) h4 h5 h6 h7 h8) (sw_other rfl)).imp fun D σ H h => ?_
  unfold rnS at h; simp only [runS] at h
  obtain ⟨al, ρ, M, S, E, p⟩ := h
  refine ⟨al, ρ, M, S, E, ?_⟩
  unfold rnA; simp only [runA]
  dsimp only at p
  cases qa : runE Z.P Z.wf (callF Z.P Z.wf n) ρ a M with
  | stuck => rw [qa] at p; exact p.elim
  | err c fs M' => rw [qa] at p; exact fun al' H' cls dd s S' x => p al' H' σ cls dd s S' (E.mono S s) x
  | ok u M1 =>
    rw [qa] at p
    simp only [withE_ok, bind_ok] at p ⊢
    cases qb : runE Z.P Z.wf (callF Z.P Z.wf n) ρ b M1 with
    | stuck => rw [qb] at p; exact p.elim
    | err c fs M' => rw [qb] at p; exact fun al' H' cls dd s S' x => p al' H' σ cls dd s S' (E.mono S s) x
    | ok w M2 =>
      rw [qb] at p
      simp only [withE_ok, bind_ok] at p ⊢
      intro al' H' vs s S' r
      have r : Reps Z.K H' al' M2 [u, w] vs := r
      rw [Reps] at r
      obtain ⟨v1, r1, rfl, k1, r⟩ := r
      rw [Reps] at r
      obtain ⟨v2, r2, rfl, k2, r⟩ := r
      rw [Reps] at r
      subst r
      exact ⟨v1, v2, rfl, p al' H' _ s S' (((E.mono S s).set k1 i).set k2 j)⟩

/-- behind a turn: the loop goes on -/
def NxF (Z : Gz) (W : WX) (D : Ends) (k : Wk) (J : It) (go : Rho → Store → Out) : L2.St → Hp → Prop := fun σ H => ∃ al ρ M, Sto Z.toGx H al M ∧ Envr Z.K H al M σ ρ ∧ rI Z H al M k J ∧ PoS Z.toGy W D H al M (go ρ M)
theorem dr_keys {κ : Type} {kf : κ → G.D} {K : PySem.W.Frag} {H : Hp} {al : Am} {M : Store} : ∀ {ds : List (G.D × G.D)} {xs : List (κ × V)}, Dr kf K H al M ds xs → ds.map (·.1) = xs.map fun p => kf p.1
  | [], xs, h => by rw [Dr] at h; subst h; rfl
  | p :: ds, xs, h => by
    obtain ⟨k, v, r, rfl, e, _, h2⟩ := h
    rw [List.map_cons, List.map_cons, e, dr_keys h2]
/-- the machine's turn of a loop -/
noncomputable def foF (Z : Gz) (n : Nat) (gp : Gp) (b : Sms) (x : G.D) (ρ : Rho) (M : Store) : Out := match bindG gp x ρ with
  | some ρ' => runSs Z.P Z.wf (callF Z.P Z.wf n) b ρ' M
  | none => none
theorem fo_turn {gp : Gp} {b : Sms} {D : Ends} {J : It} {al : Am} {ρ : Rho} {M : Store} {σ : L2.St} {H : Hp} {x : V} {d : G.D} {go : Rho → Store → Out} {k : Wk} (S : Sto Z.toGx H al M) (E : Envr Z.K H al M σ ρ) (rk : rI Z H al M k J) (rx : Rep Z.K H al M d x) (p : PoS Z.toGy W D H al M (turn (foF Z n gp b d ρ M) go)) :
      tGp Z gp x σ H fun σ2 H2 => tS Z.toGy W (rnSs Z n b) { D with nx := NxF Z W D k J go, ct := NxF Z W D k J go, bk := D.nx } σ2 H2 := by
  unfold foF at p
  split at p
  · rename_i ρ' eb
    refine ⟨al, ρ, M, d, ρ', S, E, rx, eb, fun σ' E' _ => ⟨al, ρ', M, S, E', ?_⟩⟩
    show PoS _ _ _ _ _ _ (runSs Z.P Z.wf (callF Z.P Z.wf n) b ρ' M)
    revert p
    match runSs Z.P Z.wf (callF Z.P Z.wf n) b ρ' M with
    | some (.nx ρ2, M2) => exact fun p al2 H2 σ2 s2 S2 E2 => ⟨al2, ρ2, M2, S2, E2, rk.mono S s2, PoS.step p s2⟩
    | some (.ct ρ2, M2) => exact fun p al2 H2 σ2 s2 S2 E2 => ⟨al2, ρ2, M2, S2, E2, rk.mono S s2, PoS.step p s2⟩
    | some (.bk ρ2, M2) => exact fun p al2 H2 σ2 s2 S2 E2 => p al2 H2 σ2 s2 S2 E2
    | some (.rt d, M2) => exact fun p => p
    | some (.er c fs ρ2, M2) => exact fun p => p
    | none => exact fun p => p.elim
  · exact p.elim
theorem fo_items {gp : Gp} {b : Sms} {D : Ends} {J : It} {F : G.D → Rho → Store → Out} {xs : List G.D} {al : Am} {ρ : Rho} {M : Store} {σ : L2.St} {H : Hp} (hF : F = foF Z n gp b) (S : Sto Z.toGx H al M) (E : Envr Z.K H al M σ ρ) (rk : rI Z H al M (.items xs) J) (p : PoS Z.toGy W D H al M (forL F xs ρ M)) :
    ∃ I : Nat → Nat → L2.St → Hp → Prop, (∃ m, I 0 m σ H) ∧ ∀ i m σ H, I i m σ H →
      (J.stop i H ∧ D.nx σ H) ∨ (J.go i H ∧ ∃ N : L2.St → Hp → Prop, (∀ σ' H', N σ' H' → ∃ m', m' < m ∧ I (i + 1) m' σ' H') ∧ ∀ x H', J.yld i H x H' → tGp Z gp x σ H' fun σ2 H2 => tS Z.toGy W (rnSs Z n b) { D with nx := N, ct := N, bk := D.nx } σ2 H2) := by
  refine ⟨fun i m σ H => ∃ al ρ M, Sto Z.toGx H al M ∧ Envr Z.K H al M σ ρ ∧ rI Z H al M (.items xs) J ∧ m = xs.length - i ∧ PoS Z.toGy W D H al M (forL F (xs.drop i) ρ M), ⟨xs.length, al, ρ, M, S, E, rk, rfl, by rw [List.drop_zero]; exact p⟩, ?_⟩
  rintro i m σ H ⟨al, ρ, M, S, E, rk, rfl, p⟩
  by_cases hlt : i < xs.length
  · rw [List.drop_eq_getElem_cons hlt, forL] at p
    obtain ⟨h1, h2⟩ := rI_go S rk (i := i) (d := xs[i]) (by simp [hlt])
    refine .inr ⟨h1, NxF Z W D (.items xs) J (fun ρ' M' => forL F (xs.drop (i + 1)) ρ' M'), ?_, fun x H' y => ?_⟩
    rotate_left
    · obtain ⟨rfl, rx⟩ := h2 x H' y
      subst hF
      exact fo_turn S E rk rx p
    · rintro σ' H' ⟨al', ρ', M', S', E', rk', p'⟩
      exact ⟨xs.length - (i + 1), by omega, al', ρ', M', S', E', rk', rfl, p'⟩
  · have hd : xs.drop i = [] := List.drop_eq_nil_of_le (Nat.le_of_not_lt hlt)
    rw [hd, forL] at p
    exact .inl ⟨rI_stop S rk (Nat.le_of_not_lt hlt), p.nxt S E⟩
theorem z_fo {gp : Gp} {it : Ip} {b : Sms} {tg iter : Expr} {body : List Stmt} (g : Good Z c cx n) (hp : PassesOwn (model cx.prog cx.w) cx.A cx.env cx.xe) (hi : PI cx tg iter (tI Z W (rnI Z n it))) (hg : PG cx tg (tGp Z gp)) (hb : PSsz Z n cx W b body)
    (hs : ∀ x, foldedSetIterable iter cx.env x = pure x) : PSz Z n cx W (.fo gp it b) (.For tg iter body [] pos) := (ps_for hp g.calm hi hg hb hs).imp fun D σ H h => by
  unfold rnS at h; simp only [runS] at h
  refine (tS_ex (R := rI Z) (f := rnI Z n it) h).mono ?_
  rintro J H1 ⟨al, ρ, M, k, S, E, rk, p⟩
  cases k with
  | items xs => exact fo_items rfl S E rk p
  | hot a =>
    refine ⟨fun i m σ H => ∃ al ρ M, Sto Z.toGx H al M ∧ Envr Z.K H al M σ ρ ∧ rI Z H al M (.hot a) J ∧ PoS Z.toGy W D H al M (forH a (foF Z n gp b) m i ρ M), ⟨Z.wf, al, ρ, M, S, E, rk, p⟩, ?_⟩
    rintro i m σ H ⟨al, ρ, M, S, E, rk, p⟩
    cases m with
    | zero => exact p.elim
    | succ m =>
      rw [forH] at p
      split at p
      · rename_i xs e1
        obtain ⟨h0, h00⟩ := rI_hot S rk e1
        split at p
        · rename_i e2
          exact .inl ⟨h0 i (List.getElem?_eq_none_iff.mp e2), p.nxt S E⟩
        · rename_i d e2
          obtain ⟨h1, h2⟩ := h00 i d e2
          refine .inr ⟨h1, NxF Z W D (.hot a) J (fun ρ' M' => forH a (foF Z n gp b) m (i + 1) ρ' M'), ?_, fun x H' y => ?_⟩
          rotate_left
          · obtain ⟨rfl, rx⟩ := h2 x H' y
            exact fo_turn S E rk rx p
          · rintro σ' H' ⟨al', ρ', M', S', E', rk', p'⟩
            exact ⟨m, Nat.lt_succ_self m, al', ρ', M', S', E', rk', p'⟩
      · exact p.elim
theorem z_fod {gp : Gp} {i : Nat} {b : Sms} {tg iter : Expr} {body : List Stmt} (g : Good Z c cx n) (hp : PassesOwn (model cx.prog cx.w) cx.A cx.env cx.xe) (hv : PEz Z n cx W (.v i) iter) (hg : PG cx tg (tGp Z gp)) (hb : PSsz Z n cx W b body)
    (hs : ∀ x, foldedSetIterable iter cx.env x = pure x) : PSz Z n cx W (.fod gp i b) (.For tg iter body [] pos) := (ps_lock (ps_for hp g.calm (pi_keys hv) hg hb hs)).imp fun D σ H h => by
  unfold rnS at h; simp only [runS] at h
  obtain ⟨al, ρ, M, S, E, p⟩ := h
  dsimp only at p
  split at p
  · rename_i m e1
    split at p
    · rename_i tk kvs e2
      obtain ⟨v, ev, rv⟩ := E.at_ i _ e1
      have rv' := rv
      rw [Rep] at rv
      obtain ⟨d, rfl, ha⟩ := rv
      obtain ⟨u, hH, hD⟩ := S.at_ m _ d e2 ha
      have hl : live M m := ⟨_, e2, rfl⟩
      refine ⟨d, u, hH, (by rcases hD.isd with ⟨xs, rfl⟩ | ⟨xs, rfl⟩ <;> trivial), fun od => ?_⟩
      have p1 := PoS.unl (od := od) (tk' := tk) (kv' := kvs) S hl ha hD.isd p
      have s1 : Stp H al M (upd H d (.frz od u)) al (M.set m (.fdic tk kvs)) := Stp.chg S hl ha
      have S1 : Sto Z.toGx (upd H d (.frz od u)) al (M.set m (.fdic tk kvs)) := S.chg hl ha ⟨od, u, upd_same, hD.mono S s1⟩
      have E1 := E.mono S s1
      refine ⟨al, ρ, _, S1, E1, ?_⟩
      show Po Z.toGy _ _ _ _ _ _ _ (runE Z.P Z.wf (callF Z.P Z.wf n) ρ (.v i) (M.set m (.fdic tk kvs)))
      simp only [runE, e1]
      intro al' H' v s2 S2 r
      have r' : Rep Z.K H' al' (M.set m (.fdic tk kvs)) (.ptr m) v := r
      rw [Rep] at r'
      obtain ⟨d', rfl, ha'⟩ := r'
      have hd : d' = d := by
        have := s2.get ha
        rw [ha'] at this
        exact Option.some.inj this
      subst hd
      have hz : H' d' = some (.frz od u) := s2.keep d' _ upd_same (lock_cold S hl ha) (fun _ h => by cases h)
      have E2 := E1.mono S1 s2
      have p2 := PoS.step p1 s2
      cases tk with
      | false =>
        obtain ⟨xs, rfl, hr⟩ := hD
        refine ⟨d', od, rfl, .inl ⟨xs, hz, ?_⟩⟩
        have rk : rI Z H' al' (M.set m (.fdic false kvs)) (.items (kvs.map (·.1))) (Itk d' od xs) := .inr (.inr (.inr (.inl ⟨d', od, xs, rfl, hz, dr_keys hr⟩)))
        exact fo_items rfl S2 E2 rk p2
      | true =>
        obtain ⟨xs, rfl, hr⟩ := hD
        refine ⟨d', od, rfl, .inr ⟨xs, hz, ?_⟩⟩
        have rk : rI Z H' al' (M.set m (.fdic true kvs)) (.items (kvs.map (·.1))) (Itkt d' od xs) := .inr (.inr (.inr (.inr ⟨d', od, xs, rfl, hz, dr_keys hr⟩)))
        exact fo_items rfl S2 E2 rk p2
    · exact p.elim
  · exact p.elim
theorem z_whl {t : Tp} {b : Sms} {q : Expr} {body : List Stmt} (hp : PassesOwn (model cx.prog cx.w) cx.A cx.env cx.xe) (ht : PTz Z n cx W t q) (hb : PSsz Z n cx W b body) : PSz Z n cx W (.whl t b) (.While q body [] pos) := (ps_while hp ht hb).imp fun D σ H h => by
  unfold rnS at h; simp only [runS] at h
  obtain ⟨al, ρ, M, S, E, p⟩ := h
  refine ⟨fun m σ H => ∃ al ρ M, Sto Z.toGx H al M ∧ Envr Z.K H al M σ ρ ∧ PoS Z.toGy W D H al M (whileL (fun ρ M => runT Z.P Z.wf (callF Z.P Z.wf n) ρ t M) (fun ρ M => runSs Z.P Z.wf (callF Z.P Z.wf n) b ρ M) m ρ M), ⟨Z.wf, al, ρ, M, S, E, p⟩, ?_⟩
  rintro m σ H ⟨al, ρ, M, S, E, p⟩
  cases m with
  | zero => exact p.elim
  | succ m =>
    rw [whileL] at p
    refine ⟨al, ρ, M, S, E, (PoS.ex (R := rId) S E p).mono ?_⟩
    rintro k H1 ⟨al1, M1, k', s1, S1, E1, e, p1⟩
    cases e
    cases k with
    | false => exact (if_neg (by simp)).mpr (p1.nxt S1 E1)
    | true =>
      refine (if_pos rfl).mpr ⟨fun σ H => ∃ al ρ M, Sto Z.toGx H al M ∧ Envr Z.K H al M σ ρ ∧ PoS Z.toGy W D H al M (whileL (fun ρ M => runT Z.P Z.wf (callF Z.P Z.wf n) ρ t M) (fun ρ M => runSs Z.P Z.wf (callF Z.P Z.wf n) b ρ M) m ρ M), fun σ' H' q => ⟨m, Nat.lt_succ_self m, q⟩, al1, ρ, M1, S1, E1, ?_⟩
      show PoS _ _ _ _ _ _ (runSs Z.P Z.wf (callF Z.P Z.wf n) b ρ M1)
      dsimp only at p1
      revert p1
      match runSs Z.P Z.wf (callF Z.P Z.wf n) b ρ M1 with
      | some (.nx ρ2, M2) => exact fun p al2 H2 σ2 s2 S2 E2 => ⟨al2, ρ2, M2, S2, E2, PoS.step p s2⟩
      | some (.ct ρ2, M2) => exact fun p al2 H2 σ2 s2 S2 E2 => ⟨al2, ρ2, M2, S2, E2, PoS.step p s2⟩
      | some (.bk ρ2, M2) => exact fun p al2 H2 σ2 s2 S2 E2 => p al2 H2 σ2 s2 S2 E2
      | some (.rt d, M2) => exact fun p => p
      | some (.er c fs ρ2, M2) => exact fun p => p
      | none => exact fun p => p.elim
end
end G

/-! GExc -/
set_option maxRecDepth 100000
set_option maxHeartbeats 4000000
namespace G
open PySem PySem.Spec PyProof.Rows L2
section
variable {K : PySem.W.Frag} {H : Hp} {al : Am} {M : Store}
theorem Reps.reverse : ∀ {ds : List G.D} {vs : List V}, Reps K H al M ds vs → Reps K H al M ds.reverse vs.reverse
  | [], vs, h => by rw [Reps] at h; subst h; exact Reps.nil
  | d :: ds, vs, h => by
    rw [Reps] at h
    obtain ⟨v, r, e, h1, h2⟩ := h
    subst e
    rw [List.reverse_cons, List.reverse_cons]
    exact (Reps.reverse h2).append (.cons h1 .nil)
theorem Fsr_zip {nm : Nat → Str} : ∀ {fl : List Nat} {ds : List G.D} {vs : List V}, Reps K H al M ds vs → Fsr nm K H al M (fl.zip ds) ((fl.map nm).zip vs)
  | [], ds, vs, h => by rfl
  | f :: fl, [], vs, h => by rw [Reps] at h; subst h; rfl
  | f :: fl, d :: ds, vs, h => by
    rw [Reps] at h
    obtain ⟨v, r, e, h1, h2⟩ := h
    subst e
    exact ⟨v, (fl.map nm).zip r, rfl, h1, Fsr_zip h2⟩
end
section
variable {Z : Gz} {n : Nat} {cx : Cx} {c : Ck} {W : WX} {pos : Pos}
theorem exc_heap {H : Hp} {a d : Addr} {C : Addr} {fs : List (Str × V)} (ha : H a = none) (hd : H d = none) (hda : d ≠ a) :
    upd (del (upd (upd (upd H a (exo a C none)) d (exd d fs)) a (exo a C (some d))) a) d (.xd fs) = upd H d (.xd fs) := by
  funext b
  by_cases h1 : b = d
  · subst h1; rw [upd_same, upd_same]
  · rw [upd_ne h1, upd_ne h1]
    by_cases h2 : b = a
    · subst h2; rw [del_same, ha]
    · rw [del_ne h2, upd_ne h2, upd_ne h1, upd_ne h2]
theorem z_rais {k : Nat} {e : Er} {as : Xps} {x : Str} {p p2 : Pos} {a : Expr} {es : List Expr} (g : Good Z c cx n) (tk : Takes cx W) (hk : Z.P.ers[k]? = some e) (hx : e.name = x) (hc : c.glb x = true) (hst : (a :: es).all noStar = true) (ha : PAz Z n cx W as (a :: es)) :
    PSz Z n cx W (.rais k as) (.Raise (some (.Call (.Name x p) (a :: es) [] p2)) none pos) := by
  have eg := g.lnk.ers k e hk
  obtain ⟨T, fI, fd, ps, iC, tI, F, hb⟩ := eg.ex
  obtain ⟨hg, hdb⟩ := g.gl hc
  have hm := g.lnk.erm k e hk
  rw [hx] at hm
  rw [List.all_cons, Bool.and_eq_true] at hst
  have pm := pmk_oex (pos := p2) (p := p) (dvs := []) T iC tI F g.room hb .nil passL hg hm ha hdb (starEach_cons hst.1) (star_plain hst.2)
  refine (ps_raise (pos := pos) g.calm tk pm).imp fun D σ H h => ?_
  unfold rnS at h; simp only [runS] at h
  obtain ⟨al, ρ, M, S, E, q⟩ := h
  refine ⟨al, ρ, M, S, E, (PoS.ex (R := rA Z.toGy) S E q).mono ?_⟩
  rintro vs H1 ⟨al1, M1, ds, s1, S1, E1, r1, q1⟩
  have r1 : Reps Z.K H1 al1 M1 ds vs := r1
  rw [hk] at q1
  dsimp only at q1
  split at q1
  · rename_i hl
    have hvl : vs.length = e.flds.length := by rw [r1.length]; exact hl
    refine ⟨by rw [hvl]; have := eg.few; omega, fun a0 ha0 => ?_⟩
    rw [List.append_nil]
    refine ⟨a0, vs, rfl, hvl, upd_same, fun d hd hda => ⟨rfl, d, _, upd_same, by rw [upd_ne hda, upd_same], ?_, ?_⟩⟩
    · rw [upd_ne hda] at hd; exact hd
    · rw [upd_ne hda] at hd
      rw [exc_heap ha0 hd hda]
      have st : Stp H1 al1 M1 (upd H1 d (.xd ((e.flds.map Z.nm).zip vs.reverse))) al1 M1 := Stp.cold S1 hd
      exact q1 al1 _ σ _ _ st (S1.cold hd) (E1.mono S1 st) ⟨e, d, _, hk, rfl, rfl, upd_same, by rw [List.length_reverse]; exact hl, Fsr.mono S1 st _ _ (Fsr_zip r1.reverse)⟩
  · exact q1.elim
end
end G

/-! GTry -/
set_option maxRecDepth 100000
set_option maxHeartbeats 4000000
namespace L2
open PySem PySem.Spec PyProof.Rows
/-- the clauses' wishes, one after the other; each has a slot for its name -/
def wNm (K : PySem.W.Frag) (Wo : WX) (D : Ends) : List (Value × Nat × (Addr → Value → Option Addr → TE)) → WX
  | [] => Wo
  | (c, i, ts) :: r => fun cls d σ H => ∃ b, PySem.W.exmOne K cls c = some b ∧ (b = true → ∀ a, H a = none → ts a cls d (σ.set i (some (.ref a))) H D.rt) ∧ (b = false → wNm K Wo D r cls d σ H)
inductive HdN (Y : Cx) : List ExceptHandler → List (Value × Nat × (Addr → Value → Option Addr → TE)) → Prop
  | nil : HdN Y [] []
  | cons {x nm : Str} {i : Nat} {c : Value} {ts : Addr → Value → Option Addr → TE} {e : Expr} {np pr ph : Pos} {hds : List ExceptHandler} {l : List (Value × Nat × (Addr → Value → Option Addr → TE))} (hc : Names Y x c) (hi : Y.N[i]? = some nm) (hl : Y.env.kindOf nm = some .local)
      (he : ∀ (a : Addr) (oe : Obj) (cls : Value) (d : Option Addr) (pn : List (Addr × Obj)), Zc cls d oe → (∃ vs, oe.data = .fields vs) → PE (Y.suite a ((a, oe) :: pn)) e (ts a cls d)) (r : HdN Y hds l) :
      HdN Y (.ExceptHandler (some (.Name x np)) (some nm) [.Return (some e) pr] ph :: hds) ((c, i, ts) :: l)
section
variable {Y : Cx} {body : List Stmt} {hd : ExceptHandler} {hds : List ExceptHandler} {l : List (Value × Nat × (Addr → Value → Option Addr → TE))} {pos : Pos} {tb : WX → TS} {Wo : WX}
theorem ps_try_named (hs : Y.stack = Y.env :: Y.outer) (hf : Y.env.frame = some Y.env.locals) (hN : Y.N.Nodup) (tk : Takes Y Wo)
    (hb : ∀ (W : WX) (pn : List (Addr × Obj)) (xe : Value → Shared → Prop), Takes (Y.tr pn xe) W → PassesOwn (model Y.prog Y.w) Y.A Y.env xe → PSs (Y.tr pn xe) body (tb W))
    (hh : HdN Y (hd :: hds) l) : PS Y (.Try body (hd :: hds) [] [] pos) (fun D σ H => tb (wNm Y.K Wo D l) D σ H) := by
  refine ⟨fun pins s σ H D I0 h => ?_⟩
  have ok := I0.ok
  refine wpAny_Try_except ?_
  refine wpAny_mono ((hb (wNm Y.K Wo D l) (Y.pn ++ pins) (fun e s1 => wpAny (model Y.prog Y.w) Y.A (noteFrame e Y.env) (fun _ s2 => wpAny (model Y.prog Y.w) Y.A (setFlight e none) (fun _ s3 =>
    wpAny (model Y.prog Y.w) Y.A (handleBy e Y.env (hd :: hds)) (SP Y pins D) Y.xe s3) Y.xe s2) Y.xe s1) (fun u s' xx => ?_) PassesOwn.looking).run [] s σ H D (I0.toTry _) h) (fun f s1 hsp => ?_) (fun e s1 he => he)
  · obtain ⟨a, B, sI, pins', σ', H', cls, d, rfl, Jt, nb, up, sky, na, os, ag, w⟩ := xx
    have J0 : Inv Y pins σ' H' sI := Jt.ofTry ok
    have sk : Sky B (Y.env :: Y.outer) a (Zc cls d) Y.env.locals s'.heap := by rw [← hs]; exact sky
    have hfr : Y.A.frames = some (Y.env :: Y.outer) := by rw [ok.frames, hs]
    show wpAny (model Y.prog Y.w) Y.A (noteFrame (.ref a) Y.env) _ _ _
    refine Sky.land Zc.steady hfr hf sk fun h3 fl3 up3 => ?_
    have J3 : Inv Y pins σ' H' { s' with heap := h3 } := J0.landed nb fl3.1 (up.trans up3) os ag
    obtain ⟨oe3, vs3, he3, hz3, hd3⟩ := fl3.there
    have off : ∀ {h : Heap} {o : Obj} {vs : Array Value}, h.FunFrames B (Y.env :: Y.outer) → h.get? a = some o → o.data = .fields vs → a ∉ frs (Y.env :: Y.outer) := fun {h o vs} ff e dd hm => by
      obtain ⟨_, o2, e2, hnf⟩ := ff.mem hm
      rw [e] at e2; cases e2
      exact hnf _ dd
    have nfr := off fl3.2.2.1 he3 hd3
    have nL : a ≠ Y.env.locals := fun z => nfr (List.mem_filterMap.mpr ⟨Y.env, List.mem_cons_self, by rw [hf, z]⟩)
    have nF : a ∉ Y.fs := fun hm => by
      obtain ⟨e, he, q⟩ := List.mem_filterMap.mp hm
      exact nfr (List.mem_filterMap.mpr ⟨e, List.mem_cons_of_mem _ he, q⟩)
    have S3 := J3.suite he3 hd3 na nL nF
    have go : ∀ {hq : List ExceptHandler} {lq : List (Value × Nat × (Addr → Value → Option Addr → TE))}, HdN Y hq lq → wNm Y.K Wo D lq cls d σ' H' →
        wpAny (model Y.prog Y.w) Y.A (handleBy (.ref a) Y.env hq) (SP Y pins D) Y.xe { s' with heap := h3 } := by
      intro hq lq hk
      induction hk with
      | nil =>
        intro w
        refine wpAny_handleBy_nil ?_
        obtain ⟨k1, k2, k3, oe, vs, T, oT, ts', he, hz, hdt, h1, hr⟩ := id fl3
        unfold PySem.passOn
        refine wpAny_bind (wpAny_field he hdt h1 ?_)
        rw [if_neg (show ¬ ((Value.ref T == Value.none) = true) by simp)]
        have fin : wpAny (model Y.prog Y.w) Y.A (setFlight (.ref a) Y.env.frame) (fun _ s4 => wpAny (model Y.prog Y.w) Y.A (throw (.ref a) : Sem Flow) (SP Y pins D) Y.xe s4) Y.xe { s' with heap := h3 } := by
          rw [hf]
          refine HandSPX.setFlight_upZ fl3 fun h4 hh4 up4 => wpAny_throw (tk _ _ ?_)
          exact ⟨a, B, sI, pins, σ', H', cls, d, rfl, J0, nb, (up.trans up3).trans up4, .inr (.inr (by rw [hs]; exact hh4)), na, os, ag, w⟩
        first
          | exact wpAny_bind (wpAny_pure (wpAny_bind fin))
          | exact wpAny_bind fin
      | @cons x nm i c ts e np pr ph hds2 l2 hc hi hln he r ih =>
        intro w
        obtain ⟨b, hb1, hyes, hno⟩ := w
        refine wpAny_handleBy_cons (codeAny_handlers_test ?_) (by intro q; cases q)
        have LT : PySem.W.Looks (model Y.prog Y.w) h3 (typeOf (.ref a)) cls := fun A Q E s k q => wpAny_typeOf_ref (k _ _ he3) (by rw [hz3.1]; exact q)
        have LM := PySem.W.exm_one (M := model Y.prog Y.w) (J3.kIn) LT hb1
        have test : ∀ {Q : Value → Shared → Prop} {E : Value → Shared → Prop}, Q c { s' with heap := h3 } → wpAny (model Y.prog Y.w) (Y.A.mark (some (.ref a))) (eval (.Name x np) Y.env) Q E { s' with heap := h3 } := fun {Q E} q => by
          obtain ⟨hg, hdbg, hm | ⟨hm, hv, hnn⟩⟩ := hc
          · exact ld_glob (X := Y.suite a ((a, oe3) :: (Y.pn ++ pins))) S3 hg hm q hdbg
          · exact ld_blt (X := Y.suite a ((a, oe3) :: (Y.pn ++ pins))) S3 hg hm hv q hnn hdbg
        refine test (LM.here ?_)
        cases b with
        | false =>
          show wpAny _ Y.A (handleBy (.ref a) Y.env hds2) _ _ _
          exact ih (hno rfl)
        | true =>
          refine codeAny_handlers_suite_as ?_
          refine HandSPX.lands_againZ fl3 fun h4 fl4 up4 => ?_
          have J4 : Inv Y pins σ' H' { s' with heap := h4 } := J0.landed nb fl4.1 ((up.trans up3).trans up4) os ag
          obtain ⟨oe4, vs4, he4, hz4, hd4⟩ := fl4.there
          have S4 := J4.suite he4 hd4 na nL nF
          refine store_ok (X := Y.suite a ((a, oe4) :: (Y.pn ++ pins))) (v := .ref a) S4 hN hi (.inl hln) rfl (fun s5 S5 => ?_) (.inr hln)
          have hps : PSs (Y.suite a ((a, oe4) :: (Y.pn ++ pins))) [.Return (some e) pr] (tSeq (tRet (ts a cls d)) tNext) := pss_cons (ps_ret (he a oe4 cls d (Y.pn ++ pins) hz4 ⟨_, hd4⟩)) pss_nil
          refine wpAny_mono (hps.run [] s5 _ H' { nx := fun _ _ => False, rt := D.rt } S5 (hyes rfl a na)) (fun f s6 hsp => ?_) (fun _ _ z => False.elim z)
          cases f with
          | next => obtain ⟨_, _, _, z⟩ := hsp; exact z.elim
          | brk => obtain ⟨_, _, _, z⟩ := hsp; exact z.elim
          | cont => obtain ⟨_, _, _, z⟩ := hsp; exact z.elim
          | ret u =>
            obtain ⟨v6, σ6, H6, S6, r6, q6⟩ := hsp
            exact gone_ok (S6.unsuite ok) hN hi hln fun s7 J7 => ⟨_, _, _, J7, r6, q6⟩
    exact go hh w
  · cases f with
    | next =>
      obtain ⟨σ', H', J1, q⟩ := hsp
      exact wpAny_execs_nil ⟨σ', H', J1.ofTry ok, q⟩
    | brk =>
      obtain ⟨σ', H', J1, q⟩ := hsp
      exact ⟨σ', H', J1.ofTry ok, q⟩
    | cont =>
      obtain ⟨σ', H', J1, q⟩ := hsp
      exact ⟨σ', H', J1.ofTry ok, q⟩
    | ret u =>
      obtain ⟨v, σ', H', J1, r, q⟩ := hsp
      exact ⟨v, σ', H', J1.ofTry ok, r, q⟩
end
end L2
namespace G
open PySem PySem.Spec PyProof.Rows L2
theorem Envr.unset {K : PySem.W.Frag} {H : Hp} {al : Am} {M : Store} {σ : L2.St} {ρ : Rho} {x : Option V} (E : Envr K H al M σ ρ) (i : Nat) : Envr K H al M (σ.set i x) (ρ.set i none) := by
  refine ⟨by simp [E.len], fun j d e => ?_⟩
  by_cases hj : i = j
  · subst hj
    by_cases hl : i < ρ.length
    · rw [List.getElem?_set_self hl] at e; cases e
    · rw [List.getElem?_eq_none (by simpa using hl)] at e; cases e
  · rw [List.getElem?_set_ne hj] at e
    rw [List.getElem?_set_ne hj]
    exact E.at_ j d e
section
variable {Z : Gz} {n : Nat} {cx : Cx} {c : Ck} {W : WX} {pos : Pos}
/-- a handler's value: c, fs the exception's class and fields -/
def tH (Z : Gz) (i : Nat) (a : Addr) (cls : Value) (d : Option Addr) (f : Rho → List Nat → List G.D → Option G.D) : TE := fun σ H Q => ∃ al ρ M k fs e dv, Sto Z.toGx H al M ∧ Envr Z.K H al M σ ρ ∧ σ[i]? = some (some (.ref a)) ∧ Exr Z.toGy H al M k fs cls d ∧ Z.P.ers[k]? = some e ∧
  f ρ e.flds fs = some dv ∧ ∀ al' H' v, Stp H al M H' al' M → Sto Z.toGx H' al' M → Rep Z.K H' al' M dv v → Q v H'
def tHs (Z : Gz) (i : Nat) (a : Addr) (cls : Value) (d : Option Addr) (f : Rho → List Nat → List G.D → Option (List G.D)) : TA := fun σ H Q => ∃ al ρ M k fs e dv, Sto Z.toGx H al M ∧ Envr Z.K H al M σ ρ ∧ σ[i]? = some (some (.ref a)) ∧ Exr Z.toGy H al M k fs cls d ∧ Z.P.ers[k]? = some e ∧
  f ρ e.flds fs = some dv ∧ ∀ al' H' v, Stp H al M H' al' M → Sto Z.toGx H' al' M → Reps Z.K H' al' M dv v → Q v H'
mutual
/-- does a handler's value stand for a piece of syntax; i: the name's slot -/
def chkH (c : Ck) (i : Nat) : Hx → Expr → Bool
  | .non, e => match e with | .Constant .none _ _ => true | _ => false
  | .bl b, e => match e with | .Constant (.bool b') _ _ => b == b' | _ => false
  | .int i, e => match e with | .Constant (.int j) _ _ => decide (i = j) | _ => false
  | .str x, e => match e with | .Constant (.str y) _ _ => decide (x = y) | _ => false
  | .v j, e => match e with | .Name x _ => c.var j x | _ => false
  | .fld f, e => match e with | .Attribute (.Name x _) y _ => c.var i x && c.nmd f y | _ => false
  | .tup as, e => match e with | .Tuple es _ _ => chkHs c i as es | _ => false
def chkHs (c : Ck) (i : Nat) : Hxs → List Expr → Bool
  | .nil, es => match es with | [] => true | _ => false
  | .cons a r, es => match es with | e :: es => noStar e && chkH c i a e && chkHs c i r es | _ => false
end
theorem tH_c {v : V} {d0 : G.D} {i : Nat} {a : Addr} {cls : Value} {d : Option Addr} {f : Rho → List Nat → List G.D → Option G.D} {Y : Cx} {e : Expr} (h : PE Y e (tC v)) (hr : ∀ H al M, Rep Z.K H al M d0 v) (hf : ∀ ρ fl fs, f ρ fl fs = some d0) : PE Y e (tH Z i a cls d f) := h.imp fun σ H Q hh => by
  obtain ⟨al, ρ, M, k, fs, er, dv, S, E, ea, x, hk, e1, q⟩ := hh
  rw [hf] at e1; cases e1
  exact q al H v Stp.refl S (hr H al M)
theorem Exr.mono {H H' : Hp} {al al' : Am} {M M' : Store} {k : Nat} {fs : List G.D} {cls : Value} {d : Option Addr} (S : Sto Z.toGx H al M) (s : Stp H al M H' al' M') (h : Exr Z.toGy H al M k fs cls d) : Exr Z.toGy H' al' M' k fs cls d := by
  obtain ⟨e, dd, vfs, h1, h2, h3, h4, h5, h6⟩ := h
  refine ⟨e, dd, vfs, h1, h2, h3, s.keep dd _ h4 ?_ (fun _ h => by cases h), h5, Fsr.mono S s _ _ h6⟩
  intro hh
  rcases S.hot hh with ⟨_, q⟩ | ⟨_, _, _, q⟩ | ⟨_, q⟩ | ⟨_, q⟩ <;> rw [h4] at q <;> cases q
mutual
theorem sndH (g : Good Z c cx n) (i : Nat) (a : Addr) (oe : Obj) (cls : Value) (d : Option Addr) (pn : List (Addr × Obj)) (hz : Zc cls d oe) (hf : ∃ vs, oe.data = .fields vs) : ∀ (h : Hx) (e : Expr), chkH c i h e = true →
    PE (cx.suite a ((a, oe) :: pn)) e (tH Z i a cls d fun ρ fl fs => runH ρ fl fs h)
  | .non, e, h => by
    unfold chkH at h; split at h
    · exact tH_c pe_non (fun _ _ _ => by rw [Rep]) fun _ _ _ => rfl
    · cases h
  | .bl b, e, h => by
    unfold chkH at h; split at h
    · rw [beq_iff_eq] at h; subst h
      exact tH_c pe_bl (fun _ _ _ => by rw [Rep]) fun _ _ _ => rfl
    · cases h
  | .int i, e, h => by
    unfold chkH at h; split at h
    · rw [decide_eq_true_eq] at h; subst h
      exact tH_c pe_int (fun _ _ _ => by rw [Rep]) fun _ _ _ => rfl
    · cases h
  | .str x, e, h => by
    unfold chkH at h; split at h
    · rw [decide_eq_true_eq] at h; subst h
      exact tH_c pe_str (fun _ _ _ => by rw [Rep]) fun _ _ _ => rfl
    · cases h
  | .v j, e, h => by
    unfold chkH at h; split at h
    · unfold Ck.var at h
      simp only [Bool.and_eq_true, decide_eq_true_eq, Bool.not_eq_true'] at h
      obtain ⟨⟨⟨h1, h2⟩, h3⟩, h4⟩ := h
      refine (pe_var (X := cx.suite a ((a, oe) :: pn)) (by show cx.N[j]? = _; rw [g.N]; exact h1) (g.vis h2) h3 h4).imp fun σ H Q hh => ?_
      obtain ⟨al, ρ, M, k, fs, er, dv, S, E, ea, x, hk, e1, q⟩ := hh
      simp only [runH] at e1
      split at e1
      · rename_i d' e2
        cases e1
        obtain ⟨v, e3, r⟩ := E.at_ j _ e2
        exact ⟨v, e3, q al H v Stp.refl S r⟩
      · cases e1
    · cases h
  | .fld f, e, h => by
    unfold chkH at h; split at h
    · rw [Bool.and_eq_true] at h
      obtain ⟨rfl, hml⟩ := Ck.nmd_of g.P h.2
      have hv := h.1
      unfold Ck.var at hv
      simp only [Bool.and_eq_true, decide_eq_true_eq, Bool.not_eq_true'] at hv
      obtain ⟨⟨⟨h1, h2⟩, h3⟩, h4⟩ := hv
      refine ⟨fun pins s σ H Q I hh => ?_⟩
      obtain ⟨al, ρ, M, k, fs, er, dv, S, E, ea, x, hk, e1, q⟩ := hh
      obtain ⟨er', dd, vfs, k1, k2, k3, k4, k5, k6⟩ := id x
      rw [hk] at k1; cases k1
      obtain ⟨X1, X2⟩ := g.lnk.xfc k er hk
      have hfl := (g.lnk.ers k er hk).fl
      have all : ∀ p ∈ er.flds.zip fs, p.1 < Z.P.nms.length := fun p hp => hfl _ (List.of_mem_zip hp).1
      obtain ⟨G1, _⟩ := Fsr.get (X := Z.toGx) g.lnk.nms hml all k6
      have e1 : getF f (er.flds.zip fs) = some dv := e1
      obtain ⟨v, l, rv⟩ := G1 dv e1
      have hin : f ∈ er.flds := by
        have : ∀ {l : List (Nat × G.D)} {d : G.D}, getF f l = some d → ∃ y, (f, y) ∈ l := by
          intro l
          induction l with
          | nil => intro d h; simp [getF] at h
          | cons p l ih =>
            intro d h
            obtain ⟨u, w⟩ := p
            unfold getF at h
            split at h
            · rename_i q; subst q; exact ⟨w, List.mem_cons_self⟩
            · obtain ⟨y, hy⟩ := ih h; exact ⟨y, List.mem_cons_of_mem _ hy⟩
        obtain ⟨y, hy⟩ := this e1
        exact (List.of_mem_zip hy).1
      refine (pe_xf (n := Z.nm f) X1 (X2 f hin) hz hf (pe_var (X := cx.suite a ((a, oe) :: pn)) (i := i) (by show cx.N[i]? = _; rw [g.N]; exact h1) (g.vis h2) h3 h4) (okBase_of rfl)).run pins s σ H Q I ?_
      exact ⟨.ref a, ea, rfl, k2, dd, vfs, v, k3, k4, l, q al H v Stp.refl S rv⟩
    · cases h
  | .tup as, e, h => by
    unfold chkH at h; split at h
    · refine (pe_tup (sndHs g i a oe cls d pn hz hf as _ h)).imp fun σ H Q hh => ?_
      obtain ⟨al, ρ, M, k, fs, er, dv, S, E, ea, x, hk, e1, q⟩ := hh
      simp only [runH] at e1
      cases e2 : runH.runHs ρ er.flds fs as with
      | none => rw [e2] at e1; cases e1
      | some ds =>
        rw [e2, Option.bind_some] at e1
        split at e1
        case isFalse => cases e1
        rename_i hz2
        cases e1
        refine ⟨al, ρ, M, k, fs, er, ds, S, E, ea, x, hk, e2, fun al' H' vs s S' r => ⟨by rw [r.length]; exact hz2, ?_⟩⟩
        intro p hp
        refine q al' _ _ (s.trans (Stp.cold S' hp)) (S'.cold hp) ?_
        rw [Rep]
        exact ⟨p, vs, rfl, upd_same, Reps.mono S' (Stp.cold S' hp) _ _ r⟩
    · cases h
theorem sndHs (g : Good Z c cx n) (i : Nat) (a : Addr) (oe : Obj) (cls : Value) (d : Option Addr) (pn : List (Addr × Obj)) (hz : Zc cls d oe) (hf : ∃ vs, oe.data = .fields vs) : ∀ (h : Hxs) (es : List Expr), chkHs c i h es = true →
    PA (cx.suite a ((a, oe) :: pn)) es (tHs Z i a cls d fun ρ fl fs => runH.runHs ρ fl fs h)
  | .nil, es, h => by
    cases es with
    | cons _ _ => simp [chkHs] at h
    | nil =>
      refine pa_nil.imp fun σ H Q hh => ?_
      obtain ⟨al, ρ, M, k, fs, er, dv, S, E, ea, x, hk, e1, q⟩ := hh
      simp only [runH.runHs, Option.some.injEq] at e1
      subst e1
      exact q al H [] Stp.refl S .nil
  | .cons b r, es, h => by
    cases es with
    | nil => simp [chkHs] at h
    | cons e es =>
      rw [chkHs, Bool.and_eq_true, Bool.and_eq_true] at h
      refine (pa_cons (sndH g i a oe cls d pn hz hf b e h.1.2) (sndHs g i a oe cls d pn hz hf r es h.2) (starEach_cons h.1.1)).imp fun σ H Q hh => ?_
      obtain ⟨al, ρ, M, k, fs, er, dv, S, E, ea, x, hk, e1, q⟩ := hh
      simp only [runH.runHs] at e1
      cases e2 : runH ρ er.flds fs b with
      | none => rw [e2] at e1; cases e1
      | some d1 =>
        rw [e2, Option.bind_some] at e1
        cases e3 : runH.runHs ρ er.flds fs r with
        | none => rw [e3] at e1; cases e1
        | some ds =>
          rw [e3] at e1; cases e1
          refine ⟨al, ρ, M, k, fs, er, d1, S, E, ea, x, hk, e2, fun al1 H1 v s1 S1 r1 => ?_⟩
          refine ⟨al1, ρ, M, k, fs, er, ds, S1, E.mono S s1, ea, x.mono S s1, hk, e3, fun al2 H2 vs s2 S2 r2 => ?_⟩
          exact q al2 H2 _ (s1.trans s2) S2 (.cons (Rep.mono S1 s2 _ _ r1) r2)
end
/-- the clauses of a try -/
def chkHds (c : Ck) : List (Nat × Nat × Hx) → List ExceptHandler → Bool
  | [], [] => true
  | (k, i, h) :: r, .ExceptHandler (some (.Name x _)) (some nm) [.Return (some e) _] _ :: hs => (match c.P.ers[k]? with | some e => decide (e.name = x) | none => false) && c.glb x && decide (c.N[i]? = some nm) &&
      (match c.sc.names.lookup nm with | some .local => true | _ => false) && chkH c i h e && chkHds c r hs
  | _, _ => false
def lHds (Z : Gz) : List (Nat × Nat × Hx) → List (Value × Nat × (Addr → Value → Option Addr → TE))
  | [] => []
  | (k, i, h) :: r => (.ref (Z.ec k), i, fun a cls d => tH Z i a cls d fun ρ fl fs => runH ρ fl fs h) :: lHds Z r
theorem hds_ok (g : Good Z c cx n) : ∀ {l : List (Nat × Nat × Hx)} {hs : List ExceptHandler}, chkHds c l hs = true → HdN cx hs (lHds Z l)
  | [], [], _ => .nil
  | [], _ :: _, h => by cases h
  | _ :: _, [], h => by simp [chkHds] at h
  | (k, i, hx) :: r, hd :: hs, h => by
    unfold chkHds at h
    split at h
    · rename_i h1 _; cases h1
    · rename_i k' i' hx' r' x np nm e pr ph hs' h1 h2
      cases h1; cases h2
      simp only [Bool.and_eq_true, decide_eq_true_eq] at h
      obtain ⟨⟨⟨⟨⟨q1, q2⟩, q3⟩, q4⟩, q5⟩, q6⟩ := h
      split at q1
      · rename_i er ek
        rw [decide_eq_true_eq] at q1
        obtain ⟨hg, hdb⟩ := g.gl q2
        have hm := g.lnk.erm k er (by rw [← g.P]; exact ek)
        rw [q1] at hm
        have hl : cx.env.kindOf nm = some .local := by
          show cx.env.scope.names.lookup nm = _
          rw [g.sc]
          split at q4
          · assumption
          · cases q4
        exact .cons ⟨hg, hdb, .inl hm⟩ (by rw [g.N]; exact q3) hl (fun a oe cls d pn hz hf => sndH g i a oe cls d pn hz hf hx e q5) (hds_ok g q6)
      · cases q1
    · cases h
theorem hds_sem (g : Good Z c cx n) {D : Ends} {H0 : Hp} {al0 : Am} {M0 : Store} {k : Nat} {fs : List G.D} {ρ : Rho} {M : Store} : ∀ {l : List (Nat × Nat × Hx)} {hs : List ExceptHandler}, chkHds c l hs = true → PoS Z.toGy W D H0 al0 M0 (handle Z.P k fs ρ M l) →
    ∀ al' H' σ' cls dd, Stp H0 al0 M0 H' al' M → Sto Z.toGx H' al' M → Envr Z.K H' al' M σ' ρ → Exr Z.toGy H' al' M k fs cls dd → wNm cx.K W D (lHds Z l) cls dd σ' H'
  | [], hs, _, p, al', H', σ', cls, dd, s, S, E, x => p al' H' σ' cls dd s S E x
  | (k2, i, hx) :: r, [], h, _, _, _, _, _, _, _, _, _, _ => by simp [chkHds] at h
  | (k2, i, hx) :: r, hd :: hs, h, p, al', H', σ', cls, dd, s, S, E, x => by
    have h0 := h
    unfold chkHds at h
    split at h
    · rename_i h1 _; cases h1
    · rename_i k' i' hx' r' x' np nm e pr ph hs' h1 h2
      cases h1; cases h2
      simp only [Bool.and_eq_true, decide_eq_true_eq] at h
      obtain ⟨⟨⟨⟨⟨q1, q2⟩, q3⟩, q4⟩, q5⟩, q6⟩ := h
      split at q1
      · rename_i er2 ek2
        rw [g.P] at ek2
        obtain ⟨er, d, vfs, k1, k3, k4, k5, k6⟩ := id x
        rw [handle, k1] at p
        dsimp only at p
        subst k3
        refine ⟨_, g.lnk.exm k er k2 er2 k1 ek2, fun hb a ha => ?_, fun hb => ?_⟩
        · rw [if_pos hb] at p
          split at p
          case isFalse => exact p.elim
          rename_i hlen
          split at p
          · rename_i dv e1
            have hil : i < σ'.length := by rw [← E.len]; exact hlen
            refine ⟨al', ρ.set i none, M, k, fs, er, dv, S, E.unset i, by rw [List.getElem?_set_self hil], x, k1, e1, fun al2 H2 v s2 S2 r2 => p al2 H2 v (s.trans s2) S2 r2⟩
          · exact p.elim
        · rw [if_neg (by rw [hb]; simp)] at p
          exact hds_sem g q6 p al' H' σ' _ dd s S E x
      · cases q1
    · cases h
end
end G

/-! GSts -/
set_option maxRecDepth 100000
set_option maxHeartbeats 4000000
namespace G
open PySem PySem.Spec PyProof.Rows L2
section
variable {Z : Gz} {n : Nat}
/-- a context for statements -/
structure Gds (Z : Gz) (c : Ck) (cx : Cx) (n : Nat) (W : WX) : Prop where
  g : Good Z c cx n
  tk : Takes cx W
  po : PassesOwn (model cx.prog cx.w) cx.A cx.env cx.xe
  st : cx.stack = cx.env :: cx.outer
  fr : cx.env.frame = some cx.env.locals
  kd : c.sc.kind = .function
theorem Gds.tr {c : Ck} {cx : Cx} {W W' : WX} {pn : List (Addr × Obj)} {xe : Value → Shared → Prop} (q : Gds Z c cx n W) (tk : Takes (cx.tr pn xe) W') (po : PassesOwn (model cx.prog cx.w) cx.A cx.env xe) : Gds Z c (cx.tr pn xe) n W' :=
  ⟨⟨q.g.lnk.of rfl rfl rfl rfl rfl, q.g.P, q.g.sc, q.g.N, q.g.nd, q.g.fn, q.g.calm, q.g.room, q.g.lam⟩, tk, po, q.st, q.fr, q.kd⟩
theorem z_tr {c : Ck} {cx : Cx} {W : WX} {b : Sms} {l : List (Nat × Nat × Hx)} {body : List Stmt} {hd : ExceptHandler} {hs : List ExceptHandler} {pos : Pos} (q : Gds Z c cx n W) (hl : chkHds c l (hd :: hs) = true)
    (hb : ∀ (cx' : Cx) (W' : WX), Gds Z c cx' n W' → PSsz Z n cx' W' b body) : PSz Z n cx W (.tr b l) (.Try body (hd :: hs) [] [] pos) := by
  refine (ps_try_named (tb := fun W' => tS Z.toGy W' (rnSs Z n b)) q.st q.fr (by rw [q.g.N]; exact q.g.nd) q.tk (fun W' pn xe tk po => hb _ _ (q.tr tk po)) (hds_ok q.g hl)).imp fun D σ H h => ?_
  unfold rnS at h; simp only [runS] at h
  obtain ⟨al, ρ, M, S, E, p⟩ := h
  refine ⟨al, ρ, M, S, E, ?_⟩
  show PoS _ _ _ _ _ _ (runSs Z.P Z.wf (callF Z.P Z.wf n) b ρ M)
  dsimp only at p
  revert p
  match runSs Z.P Z.wf (callF Z.P Z.wf n) b ρ M with
  | some (.nx ρ2, M2) => exact fun p => p
  | some (.ct ρ2, M2) => exact fun p => p
  | some (.bk ρ2, M2) => exact fun p => p
  | some (.rt d, M2) => exact fun p => p
  | some (.er c fs ρ2, M2) => exact fun p => hds_sem q.g hl p
  | none => exact fun p => p
theorem z_setLc {cx : Cx} {c : Ck} {W : WX} {i : Nat} {y : Str} {py : Pos} {hot : Bool} {gp : Gp} {it : Ip} {t : Tps} {e : Xp} {elt tg iter : Expr} {ifs : List Expr} {scope : Scope} {pos spos : Pos} (g : Good Z c cx n) (hy : c.N[i]? = some y) (hyl : cx.env.scope.names.lookup y = some .local)
    (hsw : swapsWith (.ListComp elt [⟨tg, iter, ifs, 0⟩] scope pos) (some (.Name y py)) spos.line cx.env = pure true) (hi : PI cx tg iter (tI Z W (rnI Z n it))) (hb : blkC cx.N cx.env.scope scope (ownOf c gp) = true)
    (hg : ∀ (s : Shared) (H : Hp) (C : Addr) (cl : List (Str × Addr)) (fp : List Addr), PG (cx.blk s H scope (compEnvC scope cl C cx.env) fp) tg (tGp Z gp))
    (ht : ∀ (s : Shared) (H : Hp) (C : Addr) (cl : List (Str × Addr)) (fp : List Addr), PTs (cx.blk s H scope (compEnvC scope cl C cx.env) fp) ifs (tT Z.toGy WF (rnTs Z n t)))
    (he : ∀ (s : Shared) (H : Hp) (C : Addr) (cl : List (Str × Addr)) (fp : List Addr), PE (cx.blk s H scope (compEnvC scope cl C cx.env) fp) elt (tE Z.toGy WF (rnE Z n e)))
    (hs : ∀ x, foldedSetIterable iter cx.env x = pure x) :
    PSz Z n cx W (.asg (.n i) (.lc hot gp it t e)) (.Assign [.Name y py] (.ListComp elt [⟨tg, iter, ifs, 0⟩] scope pos) spos) :=
  (ps_setLc (spos := spos) g.calm (by rw [g.N]; exact g.nd) (by rw [g.N]; exact hy) hyl hsw hi (blkOk_by hb) hg ht he hs).imp fun D σ H h => by
    refine lc_sem ((asg_sem h).mono fun x H1 hh => ?_)
    obtain ⟨al, ρ, M, d, ρ', S, E, r, e1, k⟩ := hh
    simp only [bindG, Option.some.injEq] at e1
    subst e1
    exact k _ (E.set r i) (wipe_set List.mem_cons_self)

def isLc : Xp → Bool | .lc .. => true | _ => false
/-- a name set by a comprehension on its own line -/
def lcOk (c : Ck) (x : Str) (px : Pos) : Expr → Bool
  | .ListComp _ _ scope vpos => (match c.sc.names.lookup x with | some .local => true | _ => false) && (px.line == vpos.line) && !(scope.names.any fun (n, k) => n == x && (k == .local || k == .cell))
  | _ => false
def asgOk (c : Ck) (e : Xp) : Expr → Expr → Bool
  | .Name x px, v => noComp v || (match c.sc.names.lookup x with | some .local => false | _ => true) || (isLc e && lcOk c x px v)
  | .Tuple .., v => noTup v
  | _, _ => false
mutual
def chkS (c : Ck) : Sm → Stmt → Bool
  | .asg g e, s => match s with | .Assign [tg] v _ => chkG c g tg && chkE c e v && asgOk c e tg v | _ => false
  | .asgF o f e, s => match s with | .Assign [.Attribute l x _] v _ => c.nmd f x && chkE c o l && chkE c e v | _ => false
  | .asgI o i e, s => match s with | .Assign [.Subscript l r _] v _ => chkE c o l && chkE c i r && chkE c e v | _ => false
  | .aug i op e, s => match s with | .AugAssign (.Name x _) op' v _ => c.tgt i x && (decide (op = .add) || decide (op = .sub)) && decide (op' = astB op) && chkE c e v | _ => false
  | .augI o i op e, s => match s with | .AugAssign (.Subscript l r _) op' v _ => (decide (op = .add) || decide (op = .sub)) && decide (op' = astB op) && chkE c o l && chkE c i r && chkE c e v | _ => false
  | .ex e, s => match s with | .Expr v _ => noComp v && chkE c e v | _ => false
  | .ite t a b, s => match s with | .If q xs ys _ => chkT c t q && chkSs c a xs && chkSs c b ys | _ => false
  | .fo g it b, s => match s with | .For tg iter body [] _ => chkI c it iter && chkG c g tg && chkSs c b body | _ => false
  | .fod g i b, s => match s with | .For tg (.Name x p) body [] _ => chkE c (.v i) (.Name x p) && chkG c g tg && chkSs c b body | _ => false
  | .whl t b, s => match s with | .While q body [] _ => chkT c t q && chkSs c b body | _ => false
  | .ret e, s => match s with | .Return (some v) _ => chkE c e v | _ => false
  | .retN, s => match s with | .Return none _ => true | _ => false
  | .rais k as, s => match s with
    | .Raise (some (.Call (.Name x _) es [] _)) none _ => (match c.P.ers[k]? with | some e => decide (e.name = x) | none => false) && c.glb x && !es.isEmpty && chkA c as es
    | _ => false
  | .brk, s => match s with | .Break _ => true | _ => false
  | .ctn, s => match s with | .Continue _ => true | _ => false
  | .pass, s => match s with | .Pass _ => true | _ => false
  | .par i j a b, s => match s with
    | .Assign [.Tuple [.Name x px, .Name y py] _ _] (.Tuple [e, e'] _ _) _ => decide (i ≠ j) && decide (c.N[i]? = some x) && decide (c.N[j]? = some y) && parB c x y px py e e' && chkE c a e && chkE c b e'
    | _ => false
  | .nev, _ => true
  | .tr b l, s => match s with | .Try body (h :: hs) [] [] _ => chkHds c l (h :: hs) && chkSs c b body | _ => false
def chkSs (c : Ck) : Sms → List Stmt → Bool
  | .nil, ss => match ss with | [] => true | _ => false
  | .cons a r, ss => match ss with | s :: ss => chkS c a s && chkSs c r ss | _ => false
end
theorem tgt_plain {gp : Gp} {c : Ck} {tg : Expr} (h : chkG c gp tg = true) : noStar tg = true := by
  cases gp <;> cases tg <;> first | rfl | cases h
theorem z_asgs {cx : Cx} {c : Ck} {W : WX} {gp : Gp} {e : Xp} {tg v : Expr} {pos : Pos} (q : Gds Z c cx n W) (h1 : chkG c gp tg = true) (h2 : chkE c e v = true) (h3 : asgOk c e tg v = true) : PSz Z n cx W (.asg gp e) (.Assign [tg] v pos) := by
  have hg := z_tgt q.g h1
  have hv := sndE e c cx W v q.g q.tk h2
  have hst := tgt_plain h1
  cases tg with
  | Name x px =>
    have h3 : (noComp v || (match c.sc.names.lookup x with | some .local => false | _ => true) || (isLc e && lcOk c x px v)) = true := h3
    rw [Bool.or_eq_true, Bool.or_eq_true] at h3
    rcases h3 with (h3 | h3) | h3
    · exact z_asg hg hv (show swapsWith v (some (.Name x px)) pos.line cx.env = pure false from noComp_of h3) (swapped_other rfl) hst
    · refine z_asg hg hv (show swapsWith v (some (.Name x px)) pos.line cx.env = pure false from sw_cell ?_) (swapped_other rfl) hst
      intro hl
      have hl : cx.env.scope.names.lookup x = some .local := hl
      rw [q.g.sc] at hl
      rw [hl] at h3
      cases h3
    · rw [Bool.and_eq_true] at h3
      cases e with
      | lc hot g2 it t a =>
        unfold chkE at h2
        split at h2
        · rename_i elt tg2 iter ifs scope vpos
          have h4 := h3.2
          unfold lcOk at h4
          simp only [Bool.and_eq_true, Bool.not_eq_true'] at h4
          obtain ⟨⟨k1, k2⟩, k3⟩ := h4
          simp only [Bool.and_eq_true] at h2
          obtain ⟨⟨⟨⟨m1, m2⟩, m3⟩, m4⟩, m5⟩ := h2
          have hl : cx.env.scope.names.lookup x = some .local := by
            rw [q.g.sc]
            split at k1
            · assumption
            · cases k1
          cases gp with
          | t _ => cases h1
          | n i =>
            obtain ⟨t1, _, _⟩ := Ck.tgt_of q.g (show c.tgt i x = true from h1)
            rw [q.g.N] at t1
            exact z_setLc q.g t1 hl (sw_true (by rw [q.g.sc]; exact q.kd) hl k2 k3) (sndI it c cx W _ _ q.g q.tk m1) (by rw [q.g.N, q.g.sc]; exact m2) (fun s H C cl fp => z_tgt (q.g.blk s H _ C cl fp) m3)
              (fun s H C cl fp => sndIfs t _ _ WF _ (q.g.blk s H _ C cl fp) takesF m4) (fun s H C cl fp => sndE a _ _ WF _ (q.g.blk s H _ C cl fp) takesF m5) (sndI_fold it c _ m1)
        · cases h2
      | _ => cases h3.1
  | Tuple es k p => exact z_asg hg hv (sw_other rfl) (swapped_of h3) hst
  | _ => cases h3
mutual
theorem sndS : ∀ (x : Sm) (c : Ck) (cx : Cx) (W : WX) (s : Stmt), Gds Z c cx n W → chkS c x s = true → PSz Z n cx W x s
  | .asg gp e, c, cx, W, s, q, h => by
    unfold chkS at h; split at h
    · simp only [Bool.and_eq_true] at h
      exact z_asgs q h.1.1 h.1.2 h.2
    · cases h
  | .asgF o f e, c, cx, W, s, q, h => by
    unfold chkS at h; split at h
    · simp only [Bool.and_eq_true] at h
      exact z_asgF q.g h.1.1 (sndE o c cx W _ q.g q.tk h.1.2) (sndE e c cx W _ q.g q.tk h.2)
    · cases h
  | .asgI o i e, c, cx, W, s, q, h => by
    unfold chkS at h; split at h
    · simp only [Bool.and_eq_true] at h
      exact z_asgI q.g (plainX_slice (chk_plain _ _ h.1.2)) (sndE o c cx W _ q.g q.tk h.1.1) (sndE i c cx W _ q.g q.tk h.1.2) (sndE e c cx W _ q.g q.tk h.2)
    · cases h
  | .aug i op e, c, cx, W, s, q, h => by
    unfold chkS at h; split at h
    · simp only [Bool.and_eq_true, Bool.or_eq_true, decide_eq_true_eq] at h
      obtain ⟨⟨⟨h1, h2⟩, rfl⟩, h4⟩ := h
      exact z_aug q.g h1 h2 (sndE e c cx W _ q.g q.tk h4)
    · cases h
  | .augI o i op e, c, cx, W, s, q, h => by
    unfold chkS at h; split at h
    · simp only [Bool.and_eq_true, Bool.or_eq_true, decide_eq_true_eq] at h
      obtain ⟨⟨⟨⟨h1, rfl⟩, h3⟩, h4⟩, h5⟩ := h
      exact z_augI q.g (plainX_slice (chk_plain _ _ h4)) h1 (sndE o c cx W _ q.g q.tk h3) (sndE i c cx W _ q.g q.tk h4) (sndE e c cx W _ q.g q.tk h5)
    · cases h
  | .ex e, c, cx, W, s, q, h => by
    unfold chkS at h; split at h
    · rw [Bool.and_eq_true] at h
      exact z_ex h.1 (sndE e c cx W _ q.g q.tk h.2)
    · cases h
  | .ite t a b, c, cx, W, s, q, h => by
    unfold chkS at h; split at h
    · simp only [Bool.and_eq_true] at h
      exact z_ite (sndT t c cx W _ q.g q.tk h.1.1) (sndSs a c cx W _ q h.1.2) (sndSs b c cx W _ q h.2)
    · cases h
  | .fo gp it b, c, cx, W, s, q, h => by
    unfold chkS at h; split at h
    · simp only [Bool.and_eq_true] at h
      exact z_fo q.g q.po (sndI it c cx W _ _ q.g q.tk h.1.1) (z_tgt q.g h.1.2) (sndSs b c cx W _ q h.2) (sndI_fold it c _ h.1.1)
    · cases h
  | .fod gp i b, c, cx, W, s, q, h => by
    unfold chkS at h; split at h
    · simp only [Bool.and_eq_true] at h
      exact z_fod q.g q.po (sndE (.v i) c cx W _ q.g q.tk h.1.1) (z_tgt q.g h.1.2) (sndSs b c cx W _ q h.2) (fun _ => rfl)
    · cases h
  | .whl t b, c, cx, W, s, q, h => by
    unfold chkS at h; split at h
    · simp only [Bool.and_eq_true] at h
      exact z_whl q.po (sndT t c cx W _ q.g q.tk h.1) (sndSs b c cx W _ q h.2)
    · cases h
  | .ret e, c, cx, W, s, q, h => by
    unfold chkS at h; split at h
    · exact z_ret (sndE e c cx W _ q.g q.tk h)
    · cases h
  | .retN, c, cx, W, s, q, h => by
    unfold chkS at h; split at h
    · exact z_retN
    · cases h
  | .rais k as, c, cx, W, s, q, h => by
    unfold chkS at h; split at h
    · rename_i x p es p2 pos
      simp only [Bool.and_eq_true] at h
      obtain ⟨⟨⟨h1, h2⟩, h3⟩, h4⟩ := h
      split at h1
      · rename_i er ek
        rw [decide_eq_true_eq] at h1
        cases es with
        | nil => cases h3
        | cons a es => exact z_rais q.g q.tk (by rw [← q.g.P]; exact ek) h1 h2 (chkA_star _ _ h4) (sndA as c cx W _ q.g q.tk h4)
      · cases h1
    · cases h
  | .brk, c, cx, W, s, q, h => by
    unfold chkS at h; split at h
    · exact z_brk
    · cases h
  | .ctn, c, cx, W, s, q, h => by
    unfold chkS at h; split at h
    · exact z_ctn
    · cases h
  | .pass, c, cx, W, s, q, h => by
    unfold chkS at h; split at h
    · exact z_pass
    · cases h
  | .par i j a b, c, cx, W, s, q, h => by
    unfold chkS at h; split at h
    · simp only [Bool.and_eq_true, decide_eq_true_eq] at h
      obtain ⟨⟨⟨⟨⟨h1, h2⟩, h3⟩, h4⟩, h5⟩, h6⟩ := h
      exact z_par q.g q.kd h1 h2 h3 h4 (sndE a c cx W _ q.g q.tk h5) (sndE b c cx W _ q.g q.tk h6)
    · cases h
  | .nev, c, cx, W, s, q, h => z_nev
  | .tr b l, c, cx, W, s, q, h => by
    unfold chkS at h; split at h
    · rw [Bool.and_eq_true] at h
      exact z_tr q h.1 fun cx' W' q' => sndSs b c cx' W' _ q' h.2
    · cases h
theorem sndSs : ∀ (x : Sms) (c : Ck) (cx : Cx) (W : WX) (ss : List Stmt), Gds Z c cx n W → chkSs c x ss = true → PSsz Z n cx W x ss
  | .nil, c, cx, W, ss, q, h => by
    cases ss with
    | nil => exact z_nilS
    | cons _ _ => simp [chkSs] at h
  | .cons a r, c, cx, W, ss, q, h => by
    cases ss with
    | nil => simp [chkSs] at h
    | cons s ss =>
      rw [chkSs, Bool.and_eq_true] at h
      exact z_consS (sndS a c cx W _ q h.1) (sndSs r c cx W _ q h.2)
end
end
end G

/-! GFun -/
set_option maxRecDepth 100000
set_option maxHeartbeats 4000000
namespace G
open PySem PySem.Spec PyProof.Rows L2
section
variable {Z : Gz} {P : Program} {w : World} {mg : Str → Option Value} {base : Heap}
theorem finish_ok {X : Gy} {H : Hp} {al : Am} {M : Store} {tr : Bool} {o : Out} {Q : VK} {E : XK} {σ : L2.St} (S : Sto X.toGx H al M) (p : Po X (rE X) (fun cls d _ H' => E cls d H') σ H al M Q (finish tr M o)) :
    PoS X (fun cls d _ H' => E cls d H') { nx := fun _ H' => Q .non H', rt := Q } H al M o := by
  revert p
  match o with
  | some (.nx ρ2, M2) =>
    intro p al2 H2 σ2 s2 S2 E2
    simp only [finish] at p
    split at p
    · rename_i c
      obtain ⟨a1, a2, a3⟩ := cut_ok S s2 S2 c.2.2
      exact p al H2 .non a1 a2 non_rep
    · exact p al2 H2 .non s2 S2 non_rep
  | some (.rt d, M2) =>
    intro p al2 H2 v s2 S2 r2
    simp only [finish] at p
    split at p
    · rename_i c
      obtain ⟨a1, a2, a3⟩ := cut_ok S s2 S2 c.2.2
      exact p al H2 v a1 a2 (a3 d v c.2.1 r2)
    · exact p al2 H2 v s2 S2 r2
  | some (.ct ρ2, M2) => exact fun p => p.elim
  | some (.bk ρ2, M2) => exact fun p => p.elim
  | some (.er c fs ρ2, M2) => exact fun p al2 H2 σ2 cls dd s2 S2 E2 x => p al2 H2 cls dd s2 S2 x
  | none => exact fun p => p
theorem start_env {K : PySem.W.Frag} {H : Hp} {al : Am} {M : Store} {ds : List G.D} {vs : List V} {N : List Str} (r : Reps K H al M ds vs) : Envr K H al M (L2.start N vs) (ds.map some ++ List.replicate (N.length - ds.length) none) := by
  have hl := r.length
  unfold L2.start
  rw [hl]
  refine ⟨by simp [hl], fun i d e => ?_⟩
  by_cases hi : i < ds.length
  · rw [List.getElem?_append_left (by simpa using hi), List.getElem?_map] at e
    cases q : ds[i]? with
    | none => rw [q] at e; cases e
    | some d' =>
      rw [q] at e; cases e
      obtain ⟨v, hv, rv⟩ := r.get q
      refine ⟨v, ?_, rv⟩
      rw [List.getElem?_append_left (by simpa [hl] using hi), List.getElem?_map, hv]; rfl
  · rw [List.getElem?_append_right (by simpa using Nat.le_of_not_lt hi), List.getElem?_replicate] at e
    split at e <;> cases e
/-- what is known of a def -/
structure DefG (Z : Gz) (mg : Str → Option Value) (f : Nat) (k : Fn) (st : Stmt) (fd : FuncData) : Prop where
  F : Fun Z.K k.name k.qual st (Z.fa f) fd
  S : FnScope k.names (k.names.take k.np) (defScope st)
  np : k.np ≤ k.names.length
  chk : chkSs ⟨Z.P, defScope st, k.names, fun _ => true, k.lam⟩ k.body (defBody st) = true
  bd : Binds Z.K fd (k.names.take k.np) []
  gl : k.glob = true → mg k.name = some (.ref (Z.fa f))
  lm : k.lam = true → ∃ co tb : Addr, fd.code = .ref co ∧ (co, tb) ∈ Z.cds ∧ (tb, k.qual ++ ".<locals>." ++ "<lambda>") ∈ Z.tbs ∧ ∀ p ∈ Z.tbs, p.1 = tb → p.2 = k.qual ++ ".<locals>." ++ "<lambda>"
/-- .. of an exception -/
structure ErrG (Z : Gz) (P : Program) (w : World) (mg : Str → Option Value) (base : Heap) (k : Nat) (e : Er) : Prop where
  cl : OexC Z.K (Z.ec k)
  init : ∃ (fI : Addr) (fd : FuncData) (ps : List Str), PySem.W.findIn Z.K (.ref (Z.ec k)) "__init__" = some (some (.ref fI)) ∧ PySem.W.typeIn Z.K (.ref fI) = some (.type "function") ∧ FnOk P w Z.K mg base (L2.CX P w) 1 fI fd ps (spX Z k e) ∧ Binds Z.K fd ps []
  fl : ∀ f ∈ e.flds, f < Z.P.nms.length
  ne : e.flds ≠ []
  few : e.flds.length ≤ 900
  nm : mg e.name = some (.ref (Z.ec k))
  xf : XfC Z.K (Z.ec k) ∧ ∀ f ∈ e.flds, PySem.W.findIn Z.K (.ref (Z.ec k)) (Z.nm f) = some none
/-- .. of the whole text -/
structure TxtG (Z : Gz) (P : Program) (w : World) (mg : Str → Option Value) (base : Heap) : Prop where
  df : ∀ f k, Z.P.fns[f]? = some k → ∃ st fd, DefG Z mg f k st fd
  blt : ∀ x ∈ blts, mg x = none
  clm : ∀ c k, Z.P.cls[c]? = some k → mg k.name = some (.ref (Z.cl c)) ∧ Cls Z.K (Z.cl c) ∧ Mk Z.K (Z.cl c) (Z.fa k.init) ∧ (∃ j, Z.P.fns[k.init]? = some j) ∧
    (∀ m g, findM m k.meths = some g → Meth Z.K (Z.cl c) (Z.nm m) (Z.fa g) ∧ ∃ j, Z.P.fns[g]? = some j) ∧ ∀ f ∈ k.flds, NoAttr Z.K (Z.cl c) (Z.nm f)
  er : ∀ k e, Z.P.ers[k]? = some e → ErrG Z P w mg base k e
  exm : ∀ c e k e', Z.P.ers[c]? = some e → Z.P.ers[k]? = some e' → PySem.W.exmOne Z.K (.ref (Z.ec c)) (.ref (Z.ec k)) = some (e.ups.contains k)
  nms : Z.P.nms.Nodup
  tab : ∀ p ∈ Z.cds, LamX.TabB base mg p.1 p.2
theorem fn_all (T : TxtG Z P w mg base) : ∀ (n f : Nat) (k : Fn) (st : Stmt) (fd : FuncData), Z.P.fns[f]? = some k → DefG Z mg f k st fd → FnOk P w Z.K mg base (L2.CX P w) (2 * n + 1) (Z.fa f) fd (k.names.take k.np) (spR Z n f)
  | 0, f, k, st, fd, hf, D => by
    refine ⟨fun vs H Q E h => ?_, fun A outer s H args us vs Q E hr he hb hv h => ?_⟩ <;>
    · obtain ⟨al, M, ds, S, r, p⟩ := h
      exact p.elim
  | n + 1, f, k, st, fd, hf, D => by
    have ih := fn_all T n
    have lm := D.lm
    obtain ⟨oc, od, kV, doc, pm, an, cdv, ct, osl, rfl, lk, hcd⟩ := D.F.ex
    refine (fn_of (k := 2 * n + 2) lk hcd D.S (fun vs H Q E h => ?_) fun A outer s H vs Q E hr h => ?_).mono (by omega)
    · obtain ⟨al, M, ds, S, r, p⟩ := h
      rw [callF, hf] at p
      dsimp only at p
      split at p
      · rename_i hl
        rw [r.length, hl, List.length_take]
        have := D.np
        omega
      · exact p.elim
    · obtain ⟨al, M, ds, S, r, p⟩ := h
      rw [callF, hf] at p
      dsimp only at p
      split at p
      · rename_i hl
        refine ⟨tS Z.toGy (fun cls d _ H' => E cls d H') (rnSs Z n k.body), ?_, al, _, M, S, start_env (N := k.names) r, ?_⟩
        · refine sndSs k.body ⟨Z.P, defScope st, k.names, fun _ => true, k.lam⟩ _ _ _ ⟨⟨⟨rfl, fun g j hg => ?_, fun g j hg hgl => ?_, T.blt, fun c j hc => (T.clm c j hc).1, fun c j hc => (T.clm c j hc).2.1, fun c j hc => ⟨(T.clm c j hc).2.2.1, (T.clm c j hc).2.2.2.1⟩,
            fun c j m g hc hm => (T.clm c j hc).2.2.2.2.1 m g hm, fun c e hc => ?_, fun c e hc => (T.er c e hc).nm, T.exm, fun c e hc => (T.er c e hc).xf, fun c j f hc hf => (T.clm c j hc).2.2.2.2.2 f hf, T.nms⟩, rfl, rfl, rfl, D.S.nd, rfl, rfl, hr, fun hl => ?_⟩, ?_, ?_, rfl, rfl, D.S.kind⟩ D.chk
          · obtain ⟨st', fd', D'⟩ := T.df g j hg
            exact ⟨⟨fd', _, ih g j st' fd' hg D', D'.bd⟩, D'.F.kp⟩
          · obtain ⟨st', fd', D'⟩ := T.df g j hg
            exact D'.gl hgl
          · have e1 := T.er c e hc
            obtain ⟨fI, fd', ps, i1, i2, i3, i4⟩ := e1.init
            exact ⟨⟨e1.cl, fI, fd', ps, i1, i2, i3.mono (by omega), i4⟩, e1.fl, e1.ne, e1.few⟩
          · obtain ⟨co, tb, l1, l2, l3, l4⟩ := lm hl
            exact ⟨co, tb, l1, T.tab _ l2, l3, l4⟩
          · exact takes_of rfl rfl rfl rfl
          · exact passes_of rfl
        · rw [← hl] at p
          exact finish_ok S p
      · exact p.elim
end
end G

/-! GInit -/
set_option maxRecDepth 100000
set_option maxHeartbeats 4000000
namespace G
open PySem PySem.Spec PyProof.Rows L2

theorem lookup_mem {α : Type} : ∀ {l : List (Str × α)} {x : Str} {u : α}, (l.map (·.1)).Nodup → (x, u) ∈ l → l.lookup x = some u
  | [], x, u, _, h => by cases h
  | (y, w) :: l, x, u, hn, h => by
    rw [List.map_cons, List.nodup_cons] at hn
    rcases List.mem_cons.mp h with e | hm
    · cases e; simp [List.lookup]
    · have hne : ¬ x = y := by
        rintro rfl
        exact hn.1 (List.mem_map.mpr ⟨(x, u), hm, rfl⟩)
      have hb : (x == y) = false := beq_eq_false_iff_ne.mpr hne
      simp only [List.lookup, hb]
      exact lookup_mem hn.2 hm
theorem zip_mem {α β : Type} : ∀ {l : List α} {r : List β} {i : Nat} {a : α} {b : β}, l[i]? = some a → r[i]? = some b → (a, b) ∈ l.zip r
  | [], _, _, _, _, h, _ => by simp at h
  | _ :: _, [], _, _, _, _, h => by simp at h
  | x :: l, y :: r, 0, a, b, h, k => by simp at h k; subst h k; simp
  | x :: l, y :: r, i + 1, a, b, h, k => by
    rw [List.zip_cons_cons]
    exact List.mem_cons_of_mem _ (zip_mem (by simpa using h) (by simpa using k))

/-- the context of such a body -/
def cxI (P : Program) (w : World) (K : PySem.W.Frag) (mg : Str → Option Value) (base : Heap) (N : List Str) (qual : Str) (scope : Scope) (f : Addr) (cd : Value) (cc : Addr) (A : Around) (outer : List Env) (s : Shared) (H : Hp) : Cx where
  prog := P
  w := w
  K := K
  mg := mg
  base := base
  A := A.deeper (PySem.W.ksEnv qual scope s.heap.objs.size f cd cc)
  N := N
  s_0 := s
  H_0 := H
  env := PySem.W.ksEnv qual scope s.heap.objs.size f cd cc
  outer := outer
  stack := PySem.W.ksEnv qual scope s.heap.objs.size f cd cc :: outer
  ex := []
  calm := true
  fn := fun _ => false
  pn := []
  xe := fun _ _ => False
/-- what the written part says of it -/
structure SupG (K : PySem.W.Frag) (P : Program) (mg : Str → Option Value) (C f cda cc : Addr) (qual : Str) (scope : Scope) (fd : FuncData) : Prop where
  fn : ∃ (oc : Value) (od : Option Addr) (osl : Array (Option Value)), K.lookup f = some ⟨oc, od, .func fd, osl⟩
  cd : PySem.W.codeIn K (.ref cda) qual = true
  code : ∃ (ccl : Value) (cdd : Option Addr) (vs : Array Value) (ccs : Array (Option Value)) (file : Str) (tf : Tok), K.lookup cda = some ⟨ccl, cdd, .fields vs, ccs⟩ ∧ vs[2]? = some (.str file tf) ∧ (P.main.file == file) = true
  cell : ∃ (cl : Value) (cld : Option Addr) (csl : Array (Option Value)), K.lookup cc = some ⟨cl, cld, .cell (some (.ref C)), csl⟩
  ini : ∃ cdt, PySem.W.clsIn K C = some cdt ∧ PySem.W.alongIn K "__init__" ((cdt.mro.dropWhile (· != .ref C)).drop 1) = some (some (.builtin "ValueError.__init__"))
  self : PySem.W.mroIn K C (.ref C) = some true
  opq : PySem.W.nsIn K cStatics "thirdparty.any" = some none
  sub : PySem.W.subIn K (.ref C) (.type "ValueError") = some true
  sup : mg "super" = none
  top : (P.main.scope.names.lookup ("super" : Str)).isSome = false
/-- .. and its scope -/
structure SupS (N ps : List Str) (sc : Scope) : Prop where
  kind : sc.kind = .function
  co : sc.isCoroutine = false
  gen : sc.isGenerator = false
  nd : N.Nodup
  pre : N.take ps.length = ps
  par : ∀ x ∈ ps, sc.names.lookup x = some .local
  nocell : ∀ y ∈ sc.names, y.2 ≠ .cell
  free : ∀ y, sc.names.lookup y = some .free → y = "__class__"
  cls : sc.names.lookup ("__class__" : Str) = some .free
  sup : sc.names.lookup ("super" : Str) = some .globalImplicit
section
variable {P : Program} {w : World} {K : PySem.W.Frag} {mg : Str → Option Value} {base : Heap}
theorem inv_sup {C f cda cc : Addr} {qual : Str} {scope : Scope} {fd : FuncData} {N ps : List Str} {A : Around} {outer : List Env} {s : Shared} {H : Hp} {us : List Value} {vs : List V} {h1 : Heap} {tk : Nat} (G0 : SupG K P mg C f cda cc qual scope fd) (S : SupS N ps scope) (hd : A.handled = none)
    (e0 : Env0 P w K mg base A outer s H) (hl : vs.length = ps.length) (r : Vals vs us) (hns : h1.Ns s.heap.objs.size (fun x => (ps.zip us).reverse.lookup x)) (hk : ∀ b o, s.heap.get? b = some o → h1.get? b = some o) :
    Inv (cxI P w K mg base N qual scope f (.ref cda) cc A outer s H) [] (L2.start N vs) H { s with heap := h1, toks := tk } := by
  have hpl : ps.length ≤ N.length := by have := congrArg List.length S.pre; rw [List.length_take] at this; omega
  obtain ⟨cl, cld, csl, hcell⟩ := G0.cell
  have hcb := e0.mod.kin _ _ hcell
  obtain ⟨hcs, hcH⟩ := e0.bs _ _ hcb
  have one : ∀ {x : Str} {c : Addr}, ([("__class__", cc)] : List (Str × Addr)).lookup x = some c → x = "__class__" ∧ c = cc := by
    intro x c h
    by_cases hx : x = "__class__"
    · subst hx; simp [List.lookup] at h; exact ⟨rfl, h.symm⟩
    · have hb : (x == ("__class__" : Str)) = false := beq_eq_false_iff_ne.mpr hx
      simp only [List.lookup, hb] at h; cases h
  refine ⟨⟨e0.mod, S.kind, rfl, rfl, Nat.le_refl _, fun y z c a b => ?_, fun y hy => ?_, fun y c z _ => ?_, fun _ => hd, Around.frames_deeper e0.frames, .inr ⟨rfl, rfl⟩, fun b z => ?_, e0.bs, e0.bsz, fun b _ _ z => ?_, fun b z => ?_, e0.funs, e0.frf⟩,
    rfl, e0.bare, Un.kept hk, ⟨_, hns, fun i y v a b c => ?_⟩, fun y c h => ?_, e0.hok.fresh (Nat.le_refl _), fun y c h => ?_, fun p hp => ?_, e0.hok.kept hk, ?_⟩
  · rw [(one a).1, (one b).1]
  · rcases hy with hy | hy
    · exact absurd rfl (S.nocell _ (PySem.mem_of_lookup hy))
    · have := S.free y hy
      subst this
      exact ⟨cc, rfl⟩
  · cases z
  · cases z
  · cases z
  · cases z
  · have hi : i < vs.length := by
      unfold L2.start at b
      by_cases hi : i < vs.length
      · exact hi
      · rw [List.getElem?_append_right (by simpa using hi), List.getElem?_replicate] at b
        split at b <;> cases b
    have ha : vs[i]? = some v := by
      unfold L2.start at b
      rw [List.getElem?_append_left (by simpa using hi), List.getElem?_map] at b
      cases e : vs[i]? with
      | none => rw [e] at b; cases b
      | some a => rw [e] at b; cases b; rfl
    obtain ⟨u, hu, rv⟩ := r.get ha
    have hp : ps[i]? = some y := by rw [← S.pre, List.getElem?_take_of_lt (by omega)]; exact a
    have ndP : ps.Nodup := by rw [← S.pre]; exact S.nd.sublist (List.take_sublist _ _)
    have hul : us.length = ps.length := by rw [← hl, r.length]
    refine ⟨u, rv, .inl ⟨S.par y (List.mem_of_getElem? hp), ?_⟩⟩
    refine lookup_mem ?_ (List.mem_reverse.mpr (zip_mem hp hu))
    rw [List.map_reverse]
    refine List.pairwise_reverse.mpr (List.Pairwise.imp (fun h => Ne.symm h) ?_)
    rw [List.map_fst_zip (by omega)]
    exact ndP
  · obtain ⟨rfl, rfl⟩ := one h
    exact ⟨_, _, hk _ _ hcs, rfl⟩
  · obtain ⟨rfl, rfl⟩ := one h
    exact hcH
  · cases hp
  · unfold L2.start
    show (vs.map some ++ List.replicate (N.length - vs.length) none).length = N.length
    rw [List.length_append, List.length_map, List.length_replicate]
    omega
end
section
variable {prog : Program} {w : World} {A : Around} {E : Value → Shared → Prop} {h : Heap} {g : Array GenState} {d : Drawn} {tk : Nat} {os : OsState}
theorem call_mw {nm q : Str} {C N x u t0 : Addr} {bs bm bmB : List Value} {hdct : Bool} {sn : List Str} {sub : List Value} {ab : Bool} {col : Option Bool} {dd : Option Addr} {k0 k1 k2 k3 k5 : Option Value} {B newId i : String} {rest : List Value} {Q : Value → Shared → Prop}
    (FB : ExcBaseFacts B newId i bmB) (hC : h.get? C = some (excClassObj nm q C N bs bm hdct sn sub ab col dd k0 k1 k2 k3 k5 newId)) (he : h.get? x = some (HandSPX.excO C t0)) (hu : h.get? u = some (PySem.W.kxs_mw i x)) (hz : rest.length ≤ sizeLine)
    (hq : ∀ h2 t2, (∀ b o, b ≠ x → h.get? b = some o → h2.get? b = some o) → h2.get? x = some (HandSPX.excO C t2) → Q .none ⟨h2, g, d, tk, os⟩) :
    wpAny (model prog w) A (call (.ref u) rest) Q E ⟨h, g, d, tk, os⟩ := by
  refine wpAny_call (codeAny_of_tree ?_)
  show wpAny _ A.in1 (callAny (.ref u) ⟨rest, []⟩) _ _ _
  simp only [callAny]
  refine wpAny_bind (wpAny_load hu ?_)
  simp only [PySem.W.kxs_mw, show (Value.type "method-wrapper" == Value.type "method" || Value.type "method-wrapper" == Value.type "builtin_function_or_method" || Value.type "method-wrapper" == Value.type "method-wrapper") = true by decide, if_true]
  refine PySem.W.KFB.if_so (by decide) ?_
  refine wpAny_bind (PySem.W.check_bound_init FB.toExcCallFacts hC he rfl (wpAny_bind (wpAny_pure (wpAny_pure ?_))))
  refine ⟨plainId_quiet FB.init.plain _, codeAny_builtin FB.initEntry ?_⟩
  exact PySem.W.exc_init_tree (cls := .ref C) (t0 := t0) (dv := none) (c2 := .none) (c3 := .none) (b4 := .bool false) he hz fun h2 k e2 _ => hq h2 _ k e2
end
theorem meth_evS {o : Expr} {m : Str} {es : List Expr} {apos pos : Pos} {env : Env} (h : es.all noStar = true) (hn : es.length < 30) (hl : (apos.endLine == pos.line) = true) :
    ∃ pl, eval (.Call (.Attribute o m apos) es [] pos) env = (do
      let ov ← attributeBase o m env (eval o env)
      standAt apos.atName
      let (f, first) ← holding [ov] (getMethod ov m pl)
      callWith pos f first (backTo pos (starEach es env)) (backToKw pos (keywordEach [] env))) := by
  refine ⟨(do return (← importBound o env).getD true), ?_⟩
  rw [arm_eval_Call]
  have hpos : methodCallPos true o env apos pos = pure pos := by unfold methodCallPos; simp [hl]
  unfold methodCall
  rw [form_of h hn, hpos]
  rfl
section
variable {P : Program} {w : World} {K : PySem.W.Frag} {mg : Str → Option Value} {base : Heap}
/-- THE RULE: super().__init__(text), then the rest -/
theorem fn_super {C f cda cc : Addr} {name qual : Str} {params : Arguments} {rest : List Stmt} {scope : Scope} {dV kV doc pm ct : Value} {an : Option Addr} {N ps : List Str} {sp : Sp} {msg : Str} {j : Nat} {p0 p1 p2 apos pos pos' : Pos} {ar : Arg}
    (G0 : SupG K P mg C f cda cc qual scope (PySem.W.ksFn name qual params (.Expr (.Call (.Attribute (.Call (.Name "super" p0) [] [] p1) "__init__" apos) [.Constant (.str msg) j p2] [] pos) pos' :: rest) scope dV kV doc pm an (.ref cda) ct cc))
    (S : SupS N ps scope) (T : OexC K C) (hli : (apos.endLine == pos.line) = true) (har : (params.posonlyargs ++ params.args).head? = some ar) (har0 : ps.head? = some ar.arg)
    (len : ∀ vs H Q E, sp vs H Q E → vs.length = ps.length)
    (hb : ∀ (A : Around) (outer : List Env) (s : Shared) (H : Hp) (vs : List V) (Q : VK) (E : XK), sp vs H Q E → ∃ (a : Addr) (ws : List V), vs = .ref a :: ws ∧ H a = some (exo a C none) ∧
      ∃ t, PSs (cxI P w K mg base N qual scope f (.ref cda) cc A outer s H) rest t ∧ t { nx := fun _ H' => Q .non H', rt := Q } (L2.start N vs) H) :
    FnOk P w K mg base (L2.CX P w) 1 f (PySem.W.ksFn name qual params (.Expr (.Call (.Attribute (.Call (.Name "super" p0) [] [] p1) "__init__" apos) [.Constant (.str msg) j p2] [] pos) pos' :: rest) scope dV kV doc pm an (.ref cda) ct cc) ps sp := by
  refine ⟨len, fun A outer s H args us vs Q E hr e0 hbind r hsp => ?_⟩
  have hl := len _ _ _ _ hsp
  have KX : K.In s.heap := e0.mod.kin.keeps fun b o e => (e0.bs b o e).1
  have lim : s.heap.NoLimit := e0.mod.nolimit.keeps fun b o e => (e0.bs b o e).1
  obtain ⟨oc, od, osl, lk⟩ := G0.fn
  obtain ⟨ccl, cdd, vsc, ccs, file, tf, lkc, hv2, hfile⟩ := G0.code
  obtain ⟨cl, cld, csl, lcell⟩ := G0.cell
  obtain ⟨cdt, hcd, hal⟩ := G0.ini
  obtain ⟨a, ws, rfl, ha, t, ht, hq⟩ := hb A outer s H vs Q E hsp
  refine PySem.ks_codeAny_call_defAt (fd := PySem.W.ksFn name qual params (.Expr (.Call (.Attribute (.Call (.Name "super" p0) [] [] p1) "__init__" apos) [.Constant (.str msg) j p2] [] pos) pos' :: rest) scope dV kV doc pm an (.ref cda) ct cc) (binds := ps.zip us)
    hr.depth (KX _ _ lk) rfl lim (PySem.W.codeRec_of KX G0.cd) rfl hbind S.nocell (fun y hy => S.par y.1 (List.of_mem_zip hy).1) (fun h1 hns hk => ?_) S.co S.gen S.kind
  have I := inv_sup (tk := s.toks + (ps.zip us).length) G0 S hr.hd e0 hl r hns hk
  obtain ⟨hp, g, d, t0, os⟩ := s
  have K1 : K.In h1 := I.kIn
  obtain ⟨t1, ho⟩ := exo_at I.hok ha
  obtain ⟨oD, hD1, hD2⟩ : ∃ oD, h1.get? C = some oD ∧ oD.data = .cls cdt := by
    unfold PySem.W.clsIn at hcd
    split at hcd
    · rename_i c d' cd' sl hoC
      cases hcd
      exact ⟨_, K1 _ _ hoC, rfl⟩
    · cases hcd
  have hka : scope.names.lookup ar.arg = some .local := S.par _ (List.mem_of_mem_head? har0)
  obtain ⟨u0, ur, rfl, rw'⟩ : ∃ u0 ur, us = .ref a :: ur ∧ Vals ws ur := by
    cases r with
    | @cons _ u0 _ ur ra rr => exact ⟨u0, ur, by rw [show u0 = Value.ref a from ra], rr⟩
  obtain ⟨pr, rfl⟩ : ∃ pr, ps = ar.arg :: pr := by
    cases ps with
    | nil => cases har0
    | cons p pr => cases har0; exact ⟨pr, rfl⟩
  have hvs : ((((ar.arg :: pr).zip (Value.ref a :: ur)).reverse).lookup ar.arg) = some (.ref a) := by
    have ndP : (ar.arg :: pr).Nodup := by rw [← S.pre]; exact S.nd.sublist (List.take_sublist _ _)
    refine lookup_mem ?_ (List.mem_reverse.mpr (by rw [List.zip_cons_cons]; exact List.mem_cons_self))
    rw [List.map_reverse]
    refine List.pairwise_reverse.mpr (List.Pairwise.imp (fun h => Ne.symm h) ?_)
    have : (Value.ref a :: ur).length = (ar.arg :: pr).length := by
      rw [← hl, List.length_cons, List.length_cons, rw'.length]
    rw [List.map_fst_zip (by omega)]
    exact ndP
  have hnsup : (base.Ns mainGlobals mg) := e0.mod.glob
  obtain ⟨mb, hb1, hb2⟩ := e0.mod.blt
  have up0 : ∀ b o, base.get? b = some o → h1.get? b = some o := fun b o e => hk b o (e0.bs b o e).1
  have hintr : interactive (PySem.W.ksEnv qual scope hp.objs.size f (.ref cda) cc) = false := by simp [interactive, S.kind]
  obtain ⟨pl, hev⟩ := meth_evS (o := .Call (.Name "super" p0) [] [] p1) (m := "__init__") (es := [.Constant (.str msg) j p2]) (apos := apos) (pos := pos) (env := PySem.W.ksEnv qual scope hp.objs.size f (.ref cda) cc) rfl (by show 1 < 30; decide) hli
  show _root_.PySem.wpAt (model P w) (A.deeper (PySem.W.ksEnv qual scope hp.objs.size f (.ref cda) cc)) _ (execs (.Expr (.Call (.Attribute (.Call (.Name "super" p0) [] [] p1) "__init__" apos) [.Constant (.str msg) j p2] [] pos) pos' :: rest) (PySem.W.ksEnv qual scope hp.objs.size f (.ref cda) cc)) _ _ _
  rw [execs_cons, exec_Expr _ _ _ hintr rfl, hev]
  refine PySem.wpAt_bind (PySem.wpAt_bind (PySem.wpAt_of_wpAny (wpAny_standAt ?_)))
  refine PySem.wpAt_bind (PySem.wpAt_bind ?_)
  refine PySem.ks_wpAt_super_base S.sup S.cls (by decide) rfl (K1 _ _ lk) rfl har rfl (K1 _ _ lkc) rfl hv2 hfile G0.top ?_
  refine PySem.W.ks_loadName_global S.kind S.sup (Calls.loadGlobal_builtin (hnsup.keeps up0) G0.sup (hb1.keeps up0) ((hb2 _ (by decide)).trans PyProof.Rows.Boot.«super») ⟨rfl, ?_⟩)
  refine wpAny_loadName_free S.kind S.cls rfl ⟨_, K1 _ _ lcell, rfl⟩ ?_
  refine wpAny_loadName_local S.kind hka hns hvs ?_
  refine PySem.ks_wpAny_isType_cls hD1 hD2 ⟨rfl, ?_⟩
  refine PySem.ks_wpAny_call_super hD1 hD2 ho rfl (fun c z => by cases z) (PySem.W.looks_mroIn K1 G0.self) (fun h2 e2 k2 => ?_)
  refine PySem.wpAt_of_wpAny (wpAny_bind (wpAny_standAt (wpAny_bind (wpAny_holding ?_))))
  have K2 : K.In h2 := K1.keeps k2
  have ho2 := k2 _ _ ho
  have hI2 : PySem.W.InstAt h2 a _ C none := ⟨ho2, rfl, rfl, trivial⟩
  refine PySem.W.kxs_getMethod PySem.W.kxs_ValueError e2 (PySem.W.looks_opaque K2 G0.opq) (l₀ := cdt.mro) (fun A Q E s k q => wpAny_bind ((PySem.W.looks_clsIn K2 hcd) A _ E s k (wpAny_pure q))) rfl K2 hal (hI2.type.andThen (PySem.W.looks_subIn K2 G0.sub)) (PySem.W.ks_ne K2 hI2 hcd) (by decide) ?_
  have k3 : ∀ b o, h1.get? b = some o → (h2.push (PySem.W.kxs_mw "ValueError.__init__" a)).get? b = some o := fun b o e => Heap.get?_push_of_some _ (k2 b o e)
  have hu3 : (h2.push (PySem.W.kxs_mw "ValueError.__init__" a)).get? h2.objs.size = some (PySem.W.kxs_mw "ValueError.__init__" a) := Heap.get?_push_at rfl rfl
  refine PySem.W.kxs_callWith (i := "ValueError.__init__") (x := a) rfl (Calls.evalArgs_plain (Calls.spliced_cons (Calls.Constant_str (k := j) (pos := p2) (Calls.spliced_nil ⟨hu3, ?_⟩))))
  obtain ⟨nm, q, N', bs, bm, sn, sub, ab, col, dd, k0, k1, k2', k3', k5, hC, hbm⟩ := T.cls
  refine call_mw F.excBase_ValueError (k3 _ _ (K1 _ _ hC)) (k3 _ _ ho) hu3 (by show 1 ≤ sizeLine; decide) fun h4 t4 k4 e4 => ?_
  refine PySem.wpAt_of_wpAny (wpAny_dropValue (PySem.wpAt_of_wpAny ?_))
  have I3 := I.kept (t' := t0 + ((ar.arg :: pr).zip (Value.ref a :: ur)).length + 1 + 1) k3
  have J := I3.write (t' := t0 + ((ar.arg :: pr).zip (Value.ref a :: ur)).length + 1 + 1) (x := a) (e := a) (o := exo a C none) (by rw [ha]; exact True.intro) (.inl rfl) k4 ⟨_, e4⟩ (exo_ok e4)
  have eu : upd H a (exo a C none) = H := by
    funext b
    by_cases hbq : b = a
    · rw [hbq, upd_same, ha]
    · rw [upd_ne hbq]
  rw [eu] at J
  show wpAny (model P w) (A.deeper (PySem.W.ksEnv qual scope hp.objs.size f (.ref cda) cc)) (execs rest (PySem.W.ksEnv qual scope hp.objs.size f (.ref cda) cc)) _ _ _
  refine wpAny_mono (ht.run [] _ (L2.start N (.ref a :: ws)) H _ J hq) (fun fl s' hs => ?_) fun _ _ z => False.elim z
  cases fl with
  | ret u =>
    obtain ⟨v, σ', H', J', rv, q⟩ := hs
    exact ⟨v, H', J'.os, J'.bare, J'.base, J'.hok, rv, q⟩
  | next =>
    obtain ⟨σ', H', J', q⟩ := hs
    exact ⟨.non, H', J'.os, J'.bare, J'.base, J'.hok, rfl, q⟩
  | brk =>
    obtain ⟨_, _, _, q⟩ := hs
    exact False.elim q
  | cont =>
    obtain ⟨_, _, _, q⟩ := hs
    exact False.elim q

def chkRest (N : List Str) (sc : Scope) : List Str → Nat → List Stmt → Bool
  | [], _, r => match r with | [] => true | _ => false
  | f :: fs, i, r => match r with
    | .Assign [.Attribute (.Name s _) g _] (.Name x _) _ :: r => decide (g = f) && decide (N[0]? = some s) && decide (N[i]? = some x) && (match sc.names.lookup s with | some .local => true | _ => false) && (match sc.names.lookup x with | some .local => true | _ => false) &&
      !(s == ("__debug__" : Str)) && !(s == ("__classdict__" : Str)) && !(x == ("__debug__" : Str)) && !(x == ("__classdict__" : Str)) && chkRest N sc fs (i + 1) r
    | _ => false
theorem rest_one {X : Cx} {N : List Str} {sc : Scope} {f : Str} {fs : List Str} {i : Nat} {r : List Stmt} (hN : X.N = N) (hS : X.env.scope = sc) (h : chkRest N sc (f :: fs) i r = true) :
    ∃ st r', r = st :: r' ∧ PS X st (tOst X.K f (tVar 0) (tVar i)) ∧ chkRest N sc fs (i + 1) r' = true := by
  unfold chkRest at h
  split at h
  · rename_i s ps g pa x px pos r'
    simp only [Bool.and_eq_true, decide_eq_true_eq, Bool.not_eq_true'] at h
    obtain ⟨⟨⟨⟨⟨⟨⟨⟨⟨rfl, q1⟩, q2⟩, q3⟩, q4⟩, q5⟩, q6⟩, q7⟩, q8⟩, q9⟩ := h
    have l1 : X.env.scope.names.lookup s = some .local := by
      rw [hS]; split at q3
      · assumption
      · cases q3
    have l2 : X.env.scope.names.lookup x = some .local := by
      rw [hS]; split at q4
      · assumption
      · cases q4
    exact ⟨_, _, rfl, ps_ost (pe_var (by rw [hN]; exact q1) (.inl l1) q5 q6) (pe_var (by rw [hN]; exact q2) (.inl l2) q7 q8), q9⟩
  · cases h
theorem rest_old {X : Cx} {N : List Str} {sc : Scope} {C : Addr} (hN : X.N = N) (hS : X.env.scope = sc) (T : OexC X.K C) : ∀ (fs : List Str) (i : Nat) (r : List Stmt), chkRest N sc fs i r = true → (∀ f ∈ fs, PySem.W.findIn X.K (.ref C) f = some none) →
    ∃ t, PSs X r t ∧ ∀ (D : Ends) (σ : L2.St) (H : Hp) (a d : Addr) (old : List (Str × V)) (us : List V), H a = some (exo a C (some d)) → H d = some (exd d old) → old.length + fs.length ≤ 900 → d ≠ a → σ[0]? = some (some (.ref a)) → us.length = fs.length →
      (∀ (j : Nat) u, us[j]? = some u → σ[i + j]? = some (some u)) → D.nx σ (upd H d (exd d ((fs.zip us).reverse ++ old))) → t D σ H
  | [], i, r, h, hf => by
    cases r with
    | cons _ _ => simp [chkRest] at h
    | nil =>
      refine ⟨tNext, pss_nil, fun D σ H a d old us h1 h2 h3 hda h4 h5 h6 k => ?_⟩
      have e : upd H d (exd d old) = H := by
        funext b
        by_cases hb : b = d
        · subst hb; rw [upd_same, h2]
        · rw [upd_ne hb]
      have k : D.nx σ (upd H d (exd d old)) := k
      rw [e] at k
      exact k
  | f :: fs, i, r, h, hf => by
    obtain ⟨st, r', rfl, p1, h'⟩ := rest_one hN hS h
    obtain ⟨t, pt, ht⟩ := rest_old hN hS T fs (i + 1) r' h' (fun g hg => hf g (List.mem_cons_of_mem _ hg))
    refine ⟨_, pss_cons p1 pt, fun D σ H a d old us h1 h2 h3 hda h4 h5 h6 k => ?_⟩
    cases us with
    | nil => cases h5
    | cons u us =>
      rw [List.length_cons] at h3
      refine ⟨u, h6 0 u rfl, .ref a, h4, a, C, rfl, T, hf f List.mem_cons_self, .inr ⟨d, old, h1, h2, by omega, ?_⟩⟩
      refine ht D σ _ a d ((f, u) :: old) us (by rw [upd_ne (Ne.symm hda)]; exact h1) upd_same (by rw [List.length_cons]; omega) hda h4 (by simpa using h5) (fun j w hw => by rw [show i + 1 + j = i + (j + 1) by omega]; exact h6 (j + 1) w (by simpa using hw)) ?_
      rw [List.zip_cons_cons, List.reverse_cons, List.append_assoc] at k
      have e : upd (upd H d (exd d ((f, u) :: old))) d (exd d ((fs.zip us).reverse ++ (f, u) :: old)) = upd H d (exd d ((fs.zip us).reverse ++ (f, u) :: old)) := by
        funext b
        by_cases hb : b = d
        · subst hb; rw [upd_same, upd_same]
        · rw [upd_ne hb, upd_ne hb, upd_ne hb]
      rw [e]
      exact k
theorem rest_new {X : Cx} {N : List Str} {sc : Scope} {C : Addr} {f : Str} {fs : List Str} {r : List Stmt} (hN : X.N = N) (hS : X.env.scope = sc) (T : OexC X.K C) (h : chkRest N sc (f :: fs) 1 r = true) (hf : ∀ g ∈ f :: fs, PySem.W.findIn X.K (.ref C) g = some none) (hfew : (f :: fs).length ≤ 900) :
    ∃ t, PSs X r t ∧ ∀ (D : Ends) (σ : L2.St) (H : Hp) (a : Addr) (us : List V), H a = some (exo a C none) → σ[0]? = some (some (.ref a)) → us.length = (f :: fs).length → (∀ (j : Nat) u, us[j]? = some u → σ[1 + j]? = some (some u)) →
      (∀ d, H d = none → d ≠ a → D.nx σ (upd (upd H d (exd d (((f :: fs).zip us).reverse))) a (exo a C (some d)))) → t D σ H := by
  obtain ⟨st, r', rfl, p1, h'⟩ := rest_one hN hS h
  obtain ⟨t, pt, ht⟩ := rest_old hN hS T fs 2 r' h' (fun g hg => hf g (List.mem_cons_of_mem _ hg))
  refine ⟨_, pss_cons p1 pt, fun D σ H a us h1 h4 h5 h6 k => ?_⟩
  cases us with
  | nil => cases h5
  | cons u us =>
    rw [List.length_cons] at hfew
    refine ⟨u, h6 0 u rfl, .ref a, h4, a, C, rfl, T, hf f List.mem_cons_self, .inl ⟨h1, fun d hd hda => ?_⟩⟩
    refine ht D σ _ a d [(f, u)] us upd_same (by rw [upd_ne hda, upd_same]) (by show 1 + _ ≤ _; omega) hda h4 (by simpa using h5) (fun j w hw => by rw [show 2 + j = 1 + (j + 1) by omega]; exact h6 (j + 1) w (by simpa using hw)) ?_
    have k' := k d hd hda
    rw [List.zip_cons_cons, List.reverse_cons] at k'
    have e : upd (upd (upd H d (exd d [(f, u)])) a (exo a C (some d))) d (exd d ((fs.zip us).reverse ++ [(f, u)])) = upd (upd H d (exd d ((fs.zip us).reverse ++ [(f, u)]))) a (exo a C (some d)) := by
      funext b
      by_cases hb : b = d
      · subst hb; rw [upd_same, upd_ne hda, upd_same]
      · rw [upd_ne hb]
        by_cases hba : b = a
        · subst hba; rw [upd_same, upd_same]
        · rw [upd_ne hba, upd_ne hb, upd_ne hba, upd_ne hb]
    rw [e]
    exact k'
/-- an exception's __init__ keeps spX -/
theorem init_ok {Z : Gz} {k : Nat} {e : Er} {f cda cc : Addr} {name qual : Str} {params : Arguments} {rest : List Stmt} {scope : Scope} {dV kV doc pm ct : Value} {an : Option Addr} {N : List Str} {msg : Str} {j : Nat} {p0 p1 p2 apos pos pos' : Pos} {ar : Arg} {g : Str} {gs : List Str}
    (G0 : SupG Z.K P mg (Z.ec k) f cda cc qual scope (PySem.W.ksFn name qual params (.Expr (.Call (.Attribute (.Call (.Name "super" p0) [] [] p1) "__init__" apos) [.Constant (.str msg) j p2] [] pos) pos' :: rest) scope dV kV doc pm an (.ref cda) ct cc))
    (S : SupS N N scope) (T : OexC Z.K (Z.ec k)) (hli : (apos.endLine == pos.line) = true) (har : (params.posonlyargs ++ params.args).head? = some ar) (har0 : N.head? = some ar.arg) (hl : N.length = e.flds.length + 1)
    (hfl : e.flds.map Z.nm = (g :: gs).reverse) (hc : chkRest N scope (g :: gs) 1 rest = true) (hno : ∀ h ∈ g :: gs, PySem.W.findIn Z.K (.ref (Z.ec k)) h = some none) (hfew : e.flds.length ≤ 900) :
    FnOk P w Z.K mg base (L2.CX P w) 1 f (PySem.W.ksFn name qual params (.Expr (.Call (.Attribute (.Call (.Name "super" p0) [] [] p1) "__init__" apos) [.Constant (.str msg) j p2] [] pos) pos' :: rest) scope dV kV doc pm an (.ref cda) ct cc) N (spX Z k e) := by
  have hlen : e.flds.length = (g :: gs).length := by rw [← List.length_map (f := Z.nm), hfl, List.length_reverse]
  refine fn_super G0 S T hli har har0 (fun vs H Q E h => ?_) fun A outer s H vs Q E h => ?_
  · obtain ⟨a, us, rfl, hu, _⟩ := h
    rw [List.length_cons, hu, hl]
  · obtain ⟨a, us, rfl, hu, ha, q⟩ := h
    obtain ⟨t, pt, ht⟩ := rest_new (X := cxI P w Z.K mg base N qual scope f (.ref cda) cc A outer s H) (r := rest) rfl rfl T hc hno (by omega)
    refine ⟨a, us, rfl, ha, t, pt, ht _ _ H a us ha ?_ (by rw [hu, hlen]) (fun j u hj => ?_) fun d hd hda => ?_⟩
    · unfold L2.start; simp
    · unfold L2.start
      have hj' := (List.getElem?_eq_some_iff.mp hj).1
      rw [List.getElem?_append_left (by rw [List.length_map, List.length_cons]; omega), List.getElem?_map, show 1 + j = j + 1 by omega, List.getElem?_cons_succ, hj]; rfl
    · have e1 : ((g :: gs).zip us).reverse = (e.flds.map Z.nm).zip us.reverse := by
        rw [hfl]
        exact List.reverse_zipWith (by rw [hu, hlen])
      rw [e1]
      exact q d hd hda
end
end G

/-! GFact -/
set_option maxRecDepth 100000
set_option maxHeartbeats 4000000
namespace G
open PySem PySem.Spec PyProof.Rows L2
section
variable {K : PySem.W.Frag}
/-- a def stands at f -/
def Dk (K : PySem.W.Frag) (x qual : Str) (st : Stmt) (f : Addr) : Prop := ∃ fd, Fun K x qual st f fd
theorem Dk.make {x qual : Str} {st : Stmt} {f : Addr} {oc : Value} {od an : Option Addr} {osl : Array (Option Value)} {kV doc pm cdv ct : Value} (l : K.lookup f = some ⟨oc, od, .func (PySem.W.fnOf x qual (defArgs st) (defBody st) (defScope st) .none kV doc pm an cdv ct), osl⟩)
    (c : PySem.W.codeIn K cdv qual = true) (k : PySem.W.keepIn K (.ref f) = true) : Dk K x qual st f := ⟨_, fun_mk l c k⟩
/-- .. that makes lambdas: its code object stands at co -/
def Dkl (K : PySem.W.Frag) (x qual : Str) (st : Stmt) (f co : Addr) : Prop := ∃ fd, Fun K x qual st f fd ∧ fd.code = .ref co
theorem Dkl.make {x qual : Str} {st : Stmt} {f co : Addr} {oc : Value} {od an : Option Addr} {osl : Array (Option Value)} {kV doc pm ct : Value} (l : K.lookup f = some ⟨oc, od, .func (PySem.W.fnOf x qual (defArgs st) (defBody st) (defScope st) .none kV doc pm an (.ref co) ct), osl⟩)
    (c : PySem.W.codeIn K (.ref co) qual = true) (k : PySem.W.keepIn K (.ref f) = true) : Dkl K x qual st f co := ⟨_, fun_mk l c k, rfl⟩
/-- its table -/
structure Tbk (K : PySem.W.Frag) (co tb : Addr) : Prop where
  hd : PySem.W.codeHdIn K co tb = true
  no : K.lookup tb = none
theorem codeHd_here {co tb : Addr} {o : Obj} (l : K.lookup co = some o) (h : PySem.W.codeHdIn [(co, o)] co tb = true) : PySem.W.codeHdIn K co tb = true := by
  have e : ([(co, o)] : PySem.W.Frag).lookup co = some o := by simp [List.lookup]
  unfold PySem.W.codeHdIn at h ⊢
  rw [e] at h
  rw [l]
  exact h
theorem Tbk.make {co tb : Addr} {oc : Value} {od : Option Addr} {vs : Array Value} {osl : Array (Option Value)} (l : K.lookup co = some ⟨oc, od, .fields vs, osl⟩) (v : vs[11]? = some (.ref tb)) (h : PySem.W.codeHdIn [(co, ⟨oc, od, .fields vs, osl⟩)] co tb = true) (n : K.lookup tb = none) : Tbk K co tb := ⟨codeHd_here l h, n⟩
theorem km_no {K : PySem.Params → PySem.W.Frag} {as : List Addr} {e : ∀ P, as = List.map (fun x => x.fst) (K P)} {ts : List Addr} {w : World} {h : Heap} (Y : (PySem.W.kmHook K as e ts).says w h) (tb : Addr) (hn : tb ∉ as) : (K w.params).lookup tb = none := by
  rw [e w.params] at hn
  rw [List.lookup_eq_none_iff]
  intro p hp
  simp only [bne_iff_ne, ne_eq, beq_iff_eq, Bool.not_eq_true', beq_eq_false_iff_ne]
  rintro rfl
  exact hn (List.mem_map_of_mem (f := fun x => x.fst) hp)
/-- a class whose objects are plain; fi its __init__ -/
structure Ck1 (K : PySem.W.Frag) (C fi : Addr) : Prop where
  cl : Cls K C
  mks : Mk K C fi
theorem Ck1.make {C fi : Addr} (pg : PySem.W.plainGet K C Str.empty = true) (hd : PySem.W.hasDictIn K C = true) (po : PySem.W.plainOver K C = true) (sa : PySem.W.findIn K (.ref C) "__setattr__" = some (some (.builtin "object.__setattr__"))) (mk : PySem.W.makesIn K C = true) (kc : PySem.W.keepIn K (.ref C) = true)
    (a1 : PySem.W.findIn K (.ref C) "__init__" = some (some (.ref fi))) (i1 : PySem.W.isFn K (.ref fi) = true) : Ck1 K C fi := ⟨⟨pg, hd, po, sa⟩, ⟨mk, a1, i1, kc⟩⟩
/-- an exception class with an own __init__ that says super().__init__ -/
structure Ek1 (K : PySem.W.Frag) (C fi : Addr) : Prop where
  cl : OexC K C
  xf : XfC K C
  ini : PySem.W.findIn K (.ref C) "__init__" = some (some (.ref fi))
  ty : PySem.W.typeIn K (.ref fi) = some (.type "function")
  hd : PySem.W.hasDictIn K C = true
theorem Ek1.make {C fi : Addr} {nm q : Str} {N : Addr} {bs bm : List Value} {sn : List Str} {sub : List Value} {ab : Bool} {col : Option Bool} {dd : Option Addr} {k0 k1 k2 k3 k5 : Option Value}
    (xL : K.lookup C = some (excClassObj nm q C N bs bm true sn sub ab col dd k0 k1 k2 k3 k5 "ValueError.__new__")) (hbm : PySem.HandSPX.refsVE bm = true)
    (sa : PySem.W.findIn K (.ref C) "__setattr__" = some (some (.builtin "object.__setattr__"))) (ga : PySem.W.findIn K (.ref C) "__getattribute__" = some (some (.builtin "BaseException.__getattribute__"))) (gg : PySem.W.findIn K (.ref C) "__getattr__" = some none)
    (ex : PySem.W.subIn K (.ref C) (.type "BaseException") = some true) (ty : PySem.W.typeIn K (.ref C) = some (.type "type")) (kc : PySem.W.keepIn K (.ref C) = true) (hd : PySem.W.hasDictIn K C = true)
    (ini : PySem.W.findIn K (.ref C) "__init__" = some (some (.ref fi))) (tf : PySem.W.typeIn K (.ref fi) = some (.type "function")) : Ek1 K C fi :=
  ⟨⟨⟨nm, q, N, bs, bm, sn, sub, ab, col, dd, k0, k1, k2, k3, k5, xL, hbm⟩, sa, ex, ty, kc⟩, ⟨ga, gg, ex, hd⟩, ini, tf, hd⟩
end
/-- the scope of an __init__ that says super() -/
def supB (N : List Str) (sc : Scope) : Bool :=
  (match sc.kind with | .function => true | _ => false) && !sc.isCoroutine && !sc.isGenerator && decide N.Nodup && (N.all fun x => match sc.names.lookup x with | some .local => true | _ => false) &&
    (sc.names.all fun y => match y.2 with | .cell => false | .free => decide (y.1 = "__class__") | _ => true) && (match sc.names.lookup ("__class__" : Str) with | some .free => true | _ => false) && (match sc.names.lookup ("super" : Str) with | some .globalImplicit => true | _ => false)
theorem supS_of {N : List Str} {sc : Scope} (h : supB N sc = true) : SupS N N sc := by
  unfold supB at h
  simp only [Bool.and_eq_true, decide_eq_true_eq, List.all_eq_true, Bool.not_eq_true'] at h
  obtain ⟨⟨⟨⟨⟨⟨⟨h1, h2⟩, h3⟩, h4⟩, h5⟩, h6⟩, h7⟩, h8⟩ := h
  refine ⟨?_, h2, h3, h4, List.take_length, fun x hx => ?_, fun y hy e => ?_, fun y e => ?_, ?_, ?_⟩
  · split at h1
    · assumption
    · cases h1
  · have q := h5 x hx
    split at q
    · assumption
    · cases q
  · have q := h6 y hy
    rw [e] at q; cases q
  · have q := h6 _ (PySem.mem_of_lookup e)
    exact of_decide_eq_true q
  · split at h7
    · assumption
    · cases h7
  · split at h8
    · assumption
    · cases h8
/-- the shape of such an __init__ -/
def initB (N : List Str) (fl : List Str) (st : Stmt) : Bool := match defBody st with
  | .Expr (.Call (.Attribute (.Call (.Name x _) [] [] _) m apos) [.Constant (.str _) _ _] [] pos) _ :: rest => decide (x = "super") && decide (m = "__init__") && (apos.endLine == pos.line) && chkRest N (defScope st) fl 1 rest && supB N (defScope st) &&
      (match ((defArgs st).posonlyargs ++ (defArgs st).args).head? with | some ar => decide (N.head? = some ar.arg) | none => false)
  | _ => false
/-- the def of it as the written part has it -/
def Ik (K : PySem.W.Frag) (P : Program) (mg : Str → Option Value) (name qual : Str) (st : Stmt) (C fi : Addr) (fd : FuncData) : Prop :=
  ∃ (kV doc pm ct : Value) (an : Option Addr) (cda cc : Addr), fd = PySem.W.ksFn name qual (defArgs st) (defBody st) (defScope st) .none kV doc pm an (.ref cda) ct cc ∧ SupG K P mg C fi cda cc qual (defScope st) fd
theorem init_of {Z : Gz} {P : Program} {w : World} {mg : Str → Option Value} {base : Heap} {k : Nat} {e : Er} {fi : Addr} {name qual : Str} {st : Stmt} {N fl : List Str} {fd : FuncData} (I : Ik Z.K P mg name qual st (Z.ec k) fi fd) (E : Ek1 Z.K (Z.ec k) fi) (h : initB N fl st = true)
    (hl : N.length = e.flds.length + 1) (hfl : e.flds.map Z.nm = fl.reverse) (hne : fl ≠ []) (hno : ∀ f ∈ fl, PySem.W.findIn Z.K (.ref (Z.ec k)) f = some none) (hfew : e.flds.length ≤ 900) : FnOk P w Z.K mg base (L2.CX P w) 1 fi fd N (spX Z k e) := by
  obtain ⟨kV, doc, pm, ct, an, cda, cc, rfl, G0⟩ := I
  unfold initB at h
  split at h
  · rename_i x p0 p1 m apos msg j p2 pos pos' rest eb
    simp only [Bool.and_eq_true, decide_eq_true_eq] at h
    obtain ⟨⟨⟨⟨⟨rfl, rfl⟩, h3⟩, h4⟩, h5⟩, h6⟩ := h
    split at h6
    · rename_i ar ea
      rw [decide_eq_true_eq] at h6
      rw [eb] at G0 ⊢
      cases fl with
      | nil => exact absurd rfl hne
      | cons g gs => exact init_ok G0 (supS_of h5) E.cl h3 ea h6 hl hfl h4 hno hfew
    · cases h6
  · cases h
end G
namespace G
open PySem PySem.Spec PyProof.Rows L2
theorem Ik.make {K : PySem.W.Frag} {P : Program} {mg : Str → Option Value} {h : Heap} (X : K.In h) (G : h.Ns mainGlobals mg) {name qual : Str} {st : Stmt} {C fi cda cc : Addr} {oc ccl cl kV doc pm ct : Value} {od cdd cld an : Option Addr} {osl ccs csl : Array (Option Value)} {vs : Array Value} {file : Str} {tf : Tok}
    (lk : K.lookup fi = some ⟨oc, od, .func (PySem.W.ksFn name qual (defArgs st) (defBody st) (defScope st) .none kV doc pm an (.ref cda) ct cc), osl⟩) (cd : PySem.W.codeIn K (.ref cda) qual = true) (code : K.lookup cda = some ⟨ccl, cdd, .fields vs, ccs⟩) (hv : vs[2]? = some (.str file tf)) (hf : (P.main.file == file) = true)
    (cell : K.lookup cc = some ⟨cl, cld, .cell (some (.ref C)), csl⟩) (hm : PySem.W.ks_superIn K C C "__init__" = some (some (.builtin "ValueError.__init__"))) (self : PySem.W.mroIn K C (.ref C) = some true) (opq : PySem.W.nsIn K cStatics "thirdparty.any" = some none)
    (sub : PySem.W.subIn K (.ref C) (.type "ValueError") = some true) (sup : PySem.W.nsIn K mainGlobals "super" = some none) (top : (P.main.scope.names.lookup ("super" : Str)).isSome = false) : ∃ fd, Ik K P mg name qual st C fi fd := by
  refine ⟨_, kV, doc, pm, ct, an, cda, cc, rfl, ⟨_, _, _, lk⟩, cd, ⟨_, _, _, _, _, _, code, hv, hf⟩, ⟨_, _, _, cell⟩, ?_, self, opq, sub, PySem.W.mg_none_of X G sup, top⟩
  unfold PySem.W.ks_superIn at hm
  cases e : PySem.W.clsIn K C with
  | none => rw [e] at hm; cases hm
  | some cdt => rw [e] at hm; exact ⟨cdt, rfl, hm⟩
def DefAll (Z : Gz) (mg : Str → Option Value) : Nat → List Fn → Prop
  | _, [] => True
  | i, k :: r => (∃ st fd, DefG Z mg i k st fd) ∧ DefAll Z mg (i + 1) r
theorem DefAll.get {Z : Gz} {mg : Str → Option Value} : ∀ {l : List Fn} {i : Nat}, DefAll Z mg i l → ∀ (j : Nat) k, l[j]? = some k → ∃ st fd, DefG Z mg (i + j) k st fd
  | [], i, _, j, k, e => by simp at e
  | x :: l, i, h, 0, k, e => by
    simp at e; subst e; exact h.1
  | x :: l, i, h, j + 1, k, e => by
    have := DefAll.get h.2 j k (by simpa using e)
    rw [show i + (j + 1) = i + 1 + j by omega]; exact this
structure ErrF (Z : Gz) (P : Program) (mg : Str → Option Value) (k : Nat) (e : Er) : Prop where
  ex : ∃ (fi : Addr) (name qual : Str) (st : Stmt) (N fl : List Str) (fd : FuncData), Ik Z.K P mg name qual st (Z.ec k) fi fd ∧ Ek1 Z.K (Z.ec k) fi ∧ initB N fl st = true ∧ N.length = e.flds.length + 1 ∧ e.flds.map Z.nm = fl.reverse ∧ fl ≠ [] ∧ (∀ f ∈ fl, PySem.W.findIn Z.K (.ref (Z.ec k)) f = some none) ∧ Binds Z.K fd N []
  fl : ∀ f ∈ e.flds, f < Z.P.nms.length
  few : e.flds.length ≤ 900
  nm : mg e.name = some (.ref (Z.ec k))
theorem ErrF.ok {Z : Gz} {P : Program} {w : World} {mg : Str → Option Value} {base : Heap} {k : Nat} {e : Er} (E : ErrF Z P mg k e) : ErrG Z P w mg base k e := by
  obtain ⟨fi, name, qual, st, N, fl, fd, I, K1, h1, h2, h3, h4, h5, h6⟩ := E.ex
  refine ⟨K1.cl, ⟨fi, fd, N, K1.ini, K1.ty, init_of I K1 h1 h2 h3 h4 h5 E.few, h6⟩, E.fl, ?_, E.few, E.nm, K1.xf, fun f hf => ?_⟩
  · intro z
    rw [z] at h3
    exact h4 (List.reverse_eq_nil_iff.mp h3.symm)
  · refine h5 _ ?_
    rw [← List.mem_reverse, ← h3]
    exact List.mem_map_of_mem hf
def ErrAll (Z : Gz) (P : Program) (mg : Str → Option Value) : Nat → List Er → Prop
  | _, [] => True
  | i, k :: r => ErrF Z P mg i k ∧ ErrAll Z P mg (i + 1) r
theorem ErrAll.get {Z : Gz} {P : Program} {mg : Str → Option Value} : ∀ {l : List Er} {i : Nat}, ErrAll Z P mg i l → ∀ (j : Nat) k, l[j]? = some k → ErrF Z P mg (i + j) k
  | [], i, _, j, k, e => by simp at e
  | x :: l, i, h, 0, k, e => by
    simp at e; subst e; exact h.1
  | x :: l, i, h, j + 1, k, e => by
    have := ErrAll.get h.2 j k (by simpa using e)
    rw [show i + (j + 1) = i + 1 + j by omega]; exact this
/-- a plain class -/
def ClsF (Z : Gz) (mg : Str → Option Value) (c : Nat) (k : Cl) : Prop := mg k.name = some (.ref (Z.cl c)) ∧ Ck1 Z.K (Z.cl c) (Z.fa k.init) ∧ k.init < Z.P.fns.length ∧
    (∀ p ∈ k.meths, Meth Z.K (Z.cl c) (Z.nm p.1) (Z.fa p.2) ∧ p.2 < Z.P.fns.length) ∧ ∀ f ∈ k.flds, NoAttr Z.K (Z.cl c) (Z.nm f)
def ClsAll (Z : Gz) (mg : Str → Option Value) : Nat → List Cl → Prop
  | _, [] => True
  | i, k :: r => ClsF Z mg i k ∧ ClsAll Z mg (i + 1) r
theorem ClsAll.get {Z : Gz} {mg : Str → Option Value} : ∀ {l : List Cl} {i : Nat}, ClsAll Z mg i l → ∀ (j : Nat) k, l[j]? = some k → ClsF Z mg (i + j) k
  | [], i, _, j, k, e => by simp at e
  | x :: l, i, h, 0, k, e => by
    simp at e; subst e; exact h.1
  | x :: l, i, h, j + 1, k, e => by
    have := ClsAll.get h.2 j k (by simpa using e)
    rw [show i + (j + 1) = i + 1 + j by omega]; exact this
theorem findM_mem {m g : Nat} : ∀ {l : List (Nat × Nat)}, findM m l = some g → (m, g) ∈ l
  | [], h => by simp [findM] at h
  | (a, b) :: l, h => by
    unfold findM at h
    split at h
    · rename_i e; subst e; cases h; exact List.mem_cons_self
    · exact List.mem_cons_of_mem _ (findM_mem h)
theorem has_get {α : Type} {l : List α} {i : Nat} (h : i < l.length) : ∃ j, l[i]? = some j := ⟨l[i], List.getElem?_eq_getElem h⟩
theorem txt_of {Z : Gz} {P : Program} {w : World} {mg : Str → Option Value} {base : Heap} (D : DefAll Z mg 0 Z.P.fns) (C : ClsAll Z mg 0 Z.P.cls) (E : ErrAll Z P mg 0 Z.P.ers) (hb : ∀ x ∈ blts, mg x = none)
    (hx : ∀ c e k e', Z.P.ers[c]? = some e → Z.P.ers[k]? = some e' → PySem.W.subIn Z.K (.ref (Z.ec c)) (.ref (Z.ec k)) = some (e.ups.contains k)) (hn : Z.P.nms.Nodup) (ht : ∀ p ∈ Z.cds, LamX.TabB base mg p.1 p.2) : TxtG Z P w mg base := by
  refine ⟨fun f k h => by simpa using D.get f k h, hb, fun c k h => ?_, fun k e h => by simpa using (E.get k e h).ok, fun c e k e' h1 h2 => ?_, hn, ht⟩
  · have q : ClsF Z mg c k := by simpa using C.get c k h
    exact ⟨q.1, q.2.1.cl, q.2.1.mks, has_get q.2.2.1, fun m g hm => ⟨(q.2.2.2.1 _ (findM_mem hm)).1, has_get (q.2.2.2.1 _ (findM_mem hm)).2⟩, q.2.2.2.2⟩
  · have q : ErrF Z P mg k e' := by simpa using E.get k e' h2
    obtain ⟨fi, name, qual, st, N, fl, fd, I, K1, _⟩ := q.ex
    exact PySem.W.exm_ref K1.cl.exC K1.hd K1.cl.tyC (hx c e k e' h1 h2)
/-- the tables of the law's code objects, at the head -/
structure TabF (Z : Gz) (h : Heap) : Prop where
  em : ∀ p ∈ Z.cds, h.get? p.2 = some { cls := .none, data := .fields #[] }
  tk : ∀ p ∈ Z.cds, Tbk Z.K p.1 p.2
  tb : ∀ t ∈ Z.tbs, ∃ p ∈ Z.cds, p.2 = t.1
def AllEm (h : Heap) : List (Addr × Addr × Str) → Prop
  | [] => True
  | q :: r => h.get? q.2.1 = some { cls := .none, data := .fields #[] } ∧ AllEm h r
def AllTb (K : PySem.W.Frag) : List (Addr × Addr × Str) → Prop
  | [] => True
  | q :: r => Tbk K q.1 q.2.1 ∧ AllTb K r
theorem AllEm.get {h : Heap} : ∀ {ks : List (Addr × Addr × Str)}, AllEm h ks → ∀ q ∈ ks, h.get? q.2.1 = some { cls := .none, data := .fields #[] }
  | [], _, q, hq => by cases hq
  | k :: r, e, q, hq => by
    rcases List.mem_cons.mp hq with rfl | hq
    · exact e.1
    · exact AllEm.get e.2 q hq
theorem AllTb.get {K : PySem.W.Frag} : ∀ {ks : List (Addr × Addr × Str)}, AllTb K ks → ∀ q ∈ ks, Tbk K q.1 q.2.1
  | [], _, q, hq => by cases hq
  | k :: r, e, q, hq => by
    rcases List.mem_cons.mp hq with rfl | hq
    · exact e.1
    · exact AllTb.get e.2 q hq
theorem tabF_of {Z : Gz} {h : Heap} {ks : List (Addr × Addr × Str)} (h1 : Z.cds = ks.map fun q => (q.1, q.2.1)) (h2 : Z.tbs = ks.map fun q => q.2) (hu : AllEm h ks) (ht : AllTb Z.K ks) : TabF Z h := by
  refine ⟨fun p hp => ?_, fun p hp => ?_, fun t hp => ?_⟩
  · rw [h1] at hp
    obtain ⟨q, hq, rfl⟩ := List.mem_map.mp hp
    exact hu.get q hq
  · rw [h1] at hp
    obtain ⟨q, hq, rfl⟩ := List.mem_map.mp hp
    exact ht.get q hq
  · rw [h2] at hp
    obtain ⟨q, hq, rfl⟩ := List.mem_map.mp hp
    exact ⟨(q.1, q.2.1), by rw [h1]; exact List.mem_map_of_mem (f := fun q => (q.1, q.2.1)) hq, rfl⟩
theorem tab_uniq {Z : Gz} {ks : List (Addr × Addr × Str)} (h2 : Z.tbs = ks.map fun q => q.2) (hd : (ks.map fun q => q.2.1).Nodup) (i : Nat) {q : Addr × Addr × Str} (hi : ks[i]? = some q) : ∀ p ∈ Z.tbs, p.1 = q.2.1 → p.2 = q.2.2 := by
  intro p hp e
  rw [h2] at hp
  obtain ⟨q', hq, rfl⟩ := List.mem_map.mp hp
  obtain ⟨j, hj⟩ := List.getElem?_of_mem hq
  have e1 : (ks.map fun q => q.2.1)[i]? = some q.2.1 := by rw [List.getElem?_map, hi]; rfl
  have e2 : (ks.map fun q => q.2.1)[j]? = some q.2.1 := by
    rw [List.getElem?_map, hj]
    exact congrArg some e
  obtain ⟨l1, g1⟩ := List.getElem?_eq_some_iff.mp e1
  obtain ⟨l2, g2⟩ := List.getElem?_eq_some_iff.mp e2
  have : i = j := by
    rcases Nat.lt_trichotomy i j with h | h | h
    · exact absurd (g1.trans g2.symm) (List.pairwise_iff_getElem.mp hd i j l1 l2 h)
    · exact h
    · exact absurd (g2.trans g1.symm) (List.pairwise_iff_getElem.mp hd j i l2 l1 h)
  subst this
  rw [hi] at hj
  cases hj
  rfl
end G

/-! GEnd -/
set_option maxRecDepth 100000
set_option maxHeartbeats 4000000
namespace G
open PySem PySem.Spec PyProof.Rows L2
theorem scr_of {K : PySem.W.Frag} {H : Hp} {a : Addr} {ns : List Int} (h : SqL K H a (ns.map V.int)) : Scr K H ⟨[], fun _ => False⟩ [] a ns := by
  rcases h with (h | h) | h
  · refine .inl ⟨h, ?_⟩
    rintro (⟨n, ⟨o, e, _⟩, _⟩ | q)
    · simp at e
    · exact q
  · exact .inr (.inl h)
  · exact .inr (.inr h)
theorem walk_g {l : PySem.W.OpenLaw} {q : Program} {loose : List Str} {XP : (Str → Option Value) → Heap → Prop} {YP : World → Heap → Prop} {d : DefRec} {K : Params → PySem.W.Frag} {p : Pg} {wf n lk : Nat} (hn : l.most = some 63) (hdf : d.params.defaults = []) (hr : Room (2 * n + 1) callerA)
    (hlaw : ∀ ns : List Int, ns.length ≤ 63 → ∃ M, callF p wf n lk [.scr ns] [] = .ok (.bl true) M)
    (hY : ∀ (w : World) (h : Heap), YP w h → (K w.params).In h)
    (F : ∀ (w : World) (mg : Str → Option Value) (fa : Addr) (h : Heap), YP w h → (K w.params).In h → h.Ns mainGlobals mg → mg d.name = some (.ref fa) →
      ∃ (fd : FuncData) (Z : Gz), Z.P = p ∧ Z.wf = wf ∧ Z.K = K w.params ∧ TabF Z h ∧ (∀ (s : Shared) (v : Value), BindsTo s fd ⟨[v], []⟩ [("script", v)]) ∧
        ∀ base : Heap, (K w.params).In base → base.Ns mainGlobals mg → (∀ p ∈ Z.cds, LamX.TabB base mg p.1 p.2) → FnOk l.prog w (K w.params) mg base (L2.CX l.prog w) (2 * n + 1) fa fd ["script"] (spR Z n lk)) :
    PySem.W.WalkO q loose XP YP l.row.toRowW d [] (fun f vs => PySem.call f vs) := by
  refine LamX.walk_ofTs (n := 63) (k := 2 * n + 1) (x := "script") (K := K) (CX := fun w => L2.CX l.prog w) hn (by decide) hdf hr hY (fun w mg fa h Y KX G hm => ?_) fun w H s e s' h => ?_
  · obtain ⟨fd, Z, h1, h2, h3, hT, hb, hF⟩ := F w mg fa h Y KX G hm
    refine ⟨fd, Z.cds, spR Z n lk, hT.em, fun p hp => h3 ▸ (hT.tk p hp).no, fun p hp => PySem.W.codeHd_of_K KX (h3 ▸ (hT.tk p hp).hd), hb, fun H a ns hl _ hH hS => ?_, hF⟩
    obtain ⟨M, e⟩ := hlaw ns hl
    refine ⟨⟨[], fun _ => False⟩, [], [.scr ns], ⟨rfl, fun n o a h => by simp at h, fun i j a h => by obtain ⟨o, h, _⟩ := h; simp at h, fun a h => h.elim, fun n a h => by obtain ⟨o, h, _⟩ := h; simp at h, fun t ht => ?_⟩, .cons ?_ .nil, ?_⟩
    · obtain ⟨p, hp, e⟩ := hT.tb t ht
      exact LamX.TabS.nil (by rw [← e]; exact hH p hp)
    · rw [Rep, h3]
      exact ⟨a, rfl, scr_of hS⟩
    · rw [h1, h2, e]
      intro al' H' v s S r
      exact rep_bl (X := Z.toGy) r
  · obtain ⟨_, _, _, _, _, _, _, _, _, _, _, _, z⟩ := h
    exact z.elim
end G

/-! the text -/
namespace K29
open PySem (Str)
open G
/-- subsets(row): 0 row 1 found 2 one 3 part -/
def b0_1 : Sms := (.cons (.asg (.n 1) (.bin .add (.v 1) (.lc false (.n 3) (.val (.v 1)) .nil (.bin .add (.v 3) (.tup (.cons (.v 2) .nil)))))) .nil)
def b0 : Sms := (.cons (.asg (.n 1) (.lst false (.cons (.tup .nil) .nil))) (.cons (.fo (.n 2) (.val (.v 0)) b0_1) (.cons (.ret (.srtk (.v 1))) .nil)))
def f0 : Fn := ⟨"subsets", "subsets", true, 1, ["row", "found", "one", "part"], b0, true, true⟩
/-- is_whole(value): 0 value -/
def b1 : Sms := (.cons (.ret (.andV (.cons (.isi (.v 0) .int) (.cons (.notV (.isi (.v 0) .bool)) .nil)))) .nil)
def f1 : Fn := ⟨"is_whole", "is_whole", true, 1, ["value"], b1, true, false⟩
/-- check_most(value, most, what): 0 value 1 most 2 what -/
def b2 : Sms := (.cons (.ite (.tand (.cons (.val (.call 1 (.cons (.v 0) .nil))) (.cons (.cmp .gt (.v 0) (.v 1)) .nil))) (.cons (.rais 0 (.cons (.v 2) .nil)) .nil) .nil) .nil)
def f2 : Fn := ⟨"check_most", "check_most", true, 3, ["value", "most", "what"], b2, true, false⟩
/-- piece_rows(lot): 0 lot 1 row -/
def b3 : Sms := (.cons (.ret (.lc false (.n 1) (.val (.v 0)) .nil (.tup (.cons (.bi .tuple (.cons (.ix (.v 1) (.int 0)) .nil)) (.cons (.ix (.v 1) (.int 1)) .nil))))) .nil)
def f3 : Fn := ⟨"piece_rows", "piece_rows", true, 1, ["lot", "row"], b3, true, false⟩
/-- check_drops(lots, course): 0 lots 1 course 2 letter 3 lot 4 row 5 skill -/
def b4_1 : Sms := (.cons (.ex (.call 2 (.cons (.ix (.v 4) (.int 1)) (.cons (.int 30) (.cons (.str "bells") .nil))))) .nil)
def b4_2 : Sms := (.cons (.fo (.n 4) (.val (.v 3)) b4_1) .nil)
def b4_3 : Sms := (.cons (.ite (.tand (.cons (.cmp .eq (.sl (.v 2) .no (.so (.int 1))) (.tup (.cons (.str "hand") .nil))) (.cons (.cmp .eq (.bi .len (.cons (.v 2) .nil)) (.int 2)) .nil))) (.cons (.ex (.call 2 (.cons (.ix (.v 2) (.int 1)) (.cons (.int 8) (.cons (.str "skills") .nil))))) .nil) .nil) .nil)
def b4_4 : Sms := (.cons (.ex (.call 2 (.cons (.v 5) (.cons (.int 8) (.cons (.str "skills") .nil))))) .nil)
def b4_5 : Sms := (.cons (.fo (.n 5) (.val (.ix (.v 4) (.int 0))) b4_4) .nil)
def b4_6 : Sms := (.cons (.fo (.n 4) (.val (.v 3)) b4_5) .nil)
def b4_7 : Sms := (.cons (.ex (.call 2 (.cons (.bi .len (.cons (.v 3) .nil)) (.cons (.int 10) (.cons (.str "drops") .nil))))) .nil)
def b4_8 : Sms := (.cons (.ite (.tand (.cons (.cmp .eq (.sl (.v 2) .no (.so (.int 1))) (.tup (.cons (.str "word") .nil))) (.cons (.cmp .eq (.bi .len (.cons (.v 2) .nil)) (.int 2)) .nil))) (.cons (.ex (.call 2 (.cons (.ix (.v 2) (.int 1)) (.cons (.bin .pow (.int 10) (.int 9)) (.cons (.str "number") .nil))))) .nil) .nil) .nil)
def b4 : Sms := (.cons (.fo (.n 2) (.val (.v 1)) b4_8) (.cons (.fo (.n 3) (.val (.v 0)) b4_7) (.cons (.fo (.n 3) (.val (.v 0)) b4_6) (.cons (.fo (.n 2) (.val (.v 1)) b4_3) (.cons (.fo (.n 3) (.val (.v 0)) b4_2) (.cons (.ex (.call 2 (.cons (.bi .len (.cons (.v 1) .nil)) (.cons (.int 60) (.cons (.str "letters") .nil))))) .nil))))))
def f4 : Fn := ⟨"check_drops", "check_drops", true, 2, ["lots", "course", "letter", "lot", "row", "skill"], b4, true, false⟩
/-- check_pieces(lots): 0 lots 1 place 2 lot 3 skills 4 due 5 turn -/
def b5_1 : Sms := (.cons (.ite (.cmp .ge (.ix (.v 3) (.bin .sub (.v 5) (.int 1))) (.ix (.v 3) (.v 5))) (.cons (.rais 1 (.cons (.v 1) .nil)) .nil) .nil) .nil)
def b5_2 : Sms := (.cons (.ite (.tor (.cons (.cmp .eq (.v 3) (.tup .nil)) (.cons (.cmp .lt (.ix (.v 3) (.int 0)) (.int 1)) (.cons (.cmp .lt (.v 4) (.int 1)) .nil)))) (.cons (.rais 1 (.cons (.v 1) .nil)) .nil) .nil) (.cons (.fo (.n 5) (.rng2 (.int 1) (.bi .len (.cons (.v 3) .nil))) b5_1) (.cons (.asg (.n 1) (.bin .add (.v 1) (.int 1))) .nil)))
def b5_3 : Sms := (.cons (.fo (.t [3, 4]) (.val (.v 2)) b5_2) .nil)
def b5 : Sms := (.cons (.asg (.n 1) (.int 0)) (.cons (.fo (.n 2) (.val (.v 0)) b5_3) .nil))
def f5 : Fn := ⟨"check_pieces", "check_pieces", true, 1, ["lots", "place", "lot", "skills", "due", "turn"], b5, true, false⟩
/-- fits_on(one, other): 0 one 1 other 2 skill -/
def b6_1 : Sms := (.cons (.ite (.cmp .nin (.v 2) (.ix (.v 1) (.int 0))) (.cons (.ret (.bl false)) .nil) .nil) .nil)
def b6 : Sms := (.cons (.fo (.n 2) (.val (.ix (.v 0) (.int 0))) b6_1) (.cons (.ret (.cmp .le (.ix (.v 0) (.int 1)) (.ix (.v 1) (.int 1)))) .nil))
def f6 : Fn := ⟨"fits_on", "fits_on", true, 2, ["one", "other", "skill"], b6, true, false⟩
/-- is_harder(a, b): 0 a 1 b 2 rows -/
def b7 : Sms := (.cons (.asg (.n 2) (.call 3 (.cons (.lst false (.cons (.v 0) (.cons (.v 1) .nil))) .nil))) (.cons (.ex (.call 4 (.cons (.lst false (.cons (.v 2) .nil)) (.cons (.lst false .nil) .nil)))) (.cons (.ex (.call 5 (.cons (.lst false (.cons (.v 2) .nil)) .nil))) (.cons (.ret (.call 6 (.cons (.ix (.v 2) (.int 0)) (.cons (.ix (.v 2) (.int 1)) .nil)))) .nil))))
def f7 : Fn := ⟨"is_harder", "is_harder", true, 2, ["a", "b", "rows"], b7, true, false⟩
/-- place_left(options, left, taken, seen): 0 options 1 left 2 taken 3 seen 4 right -/
def b8_1 : Sms := (.cons (.ite (.cmp .nin (.v 4) (.v 3)) (.cons (.asgI (.v 3) (.v 4) (.bl true)) (.cons (.ite (.tor (.cons (.cmp .nin (.v 4) (.v 2)) (.cons (.val (.call 8 (.cons (.v 0) (.cons (.ix (.v 2) (.v 4)) (.cons (.v 2) (.cons (.v 3) .nil)))))) .nil))) (.cons (.asgI (.v 2) (.v 4) (.v 1)) (.cons (.ret (.bl true)) .nil)) .nil) .nil)) .nil) .nil)
def b8 : Sms := (.cons (.fo (.n 4) (.val (.ix (.v 0) (.v 1))) b8_1) (.cons (.ret (.bl false)) .nil))
def f8 : Fn := ⟨"place_left", "place_left", true, 4, ["options", "left", "taken", "seen", "right"], b8, true, false⟩
/-- pair_up(options): 0 options 1 taken 2 left 3 pairs 4 right 5 row -/
def b9_1 : Sms := (.cons (.asgI (.v 3) (.ix (.v 1) (.v 4)) (.v 4)) .nil)
def b9_2 : Sms := (.cons (.ite (.tnot (.val (.call 8 (.cons (.v 0) (.cons (.v 2) (.cons (.v 1) (.cons (.dnew false) .nil))))))) (.cons (.ret .non) .nil) .nil) .nil)
def b9 : Sms := (.cons (.asg (.n 1) (.dnew false)) (.cons (.fo (.n 2) (.rng1 (.bi .len (.cons (.v 0) .nil))) b9_2) (.cons (.asg (.n 3) (.lc true (.n 5) (.val (.v 0)) .nil (.int 0))) (.cons (.fod (.n 4) 1 b9_1) (.cons (.ret (.frz (.v 3))) .nil)))))
def f9 : Fn := ⟨"pair_up", "pair_up", true, 1, ["options", "taken", "left", "pairs", "right", "row"], b9, true, false⟩
/-- harder_places(piece, second): 0 piece 1 second 2 place -/
def b10 : Sms := (.cons (.ret (.lc false (.n 2) (.rng1 (.bi .len (.cons (.v 1) .nil))) (.cons (.val (.call 6 (.cons (.ix (.v 1) (.v 2)) (.cons (.v 0) .nil)))) .nil) (.v 2))) .nil)
def f10 : Fn := ⟨"harder_places", "harder_places", true, 2, ["piece", "second", "place"], b10, true, false⟩
/-- laid_word(first, second): 0 first 1 second 2 options 3 pairs 4 chosen 5 near 6 place 7 piece 8 other -/
def b11_1 : Sms := (.cons (.asgI (.v 5) (.v 8) (.bl true)) .nil)
def b11_2 : Sms := (.cons (.fo (.n 8) (.val (.ix (.v 2) (.v 6))) b11_1) .nil)
def b11_3 : Sms := (.cons (.asg (.n 5) (.dnew false)) (.cons (.fo (.n 6) (.val (.v 4)) b11_2) (.cons (.ite (.cmp .lt (.bi .len (.cons (.v 5) .nil)) (.bi .len (.cons (.v 4) .nil))) (.cons (.ret (.tup (.cons (.str "no") (.cons (.v 4) (.cons (.bi .tuple (.cons (.bi (.sorted false) (.cons (.bi (.list false) (.cons (.v 5) .nil)) .nil)) .nil)) .nil))))) .nil) .nil) .nil)))
def b11 : Sms := (.cons (.asg (.n 2) (.lc true (.n 7) (.val (.v 0)) .nil (.call 10 (.cons (.v 7) (.cons (.v 1) .nil))))) (.cons (.asg (.n 3) (.call 9 (.cons (.v 2) .nil))) (.cons (.ite (.notN (.v 3)) (.cons (.ret (.tup (.cons (.str "yes") (.cons (.lc true (.n 6) (.rng1 (.bi .len (.cons (.v 0) .nil))) .nil (.tup (.cons (.v 6) (.cons (.ix (.v 3) (.v 6)) .nil)))) .nil)))) .nil) .nil) (.cons (.fo (.n 4) (.val (.call 0 (.cons (.trg (.bi .len (.cons (.v 0) .nil))) .nil))) b11_3) (.cons (.ret (.tup (.cons (.str "yes") (.cons (.lst false .nil) .nil)))) .nil)))))
def f11 : Fn := ⟨"laid_word", "laid_word", true, 2, ["first", "second", "options", "pairs", "chosen", "near", "place", "piece", "other"], b11, true, false⟩
/-- at_least(first, second): 0 first 1 second 2 lots -/
def b12 : Sms := (.cons (.asg (.n 2) (.lst false (.cons (.call 3 (.cons (.v 0) .nil)) (.cons (.call 3 (.cons (.v 1) .nil)) .nil)))) (.cons (.ex (.call 4 (.cons (.v 2) (.cons (.lst false .nil) .nil)))) (.cons (.ex (.call 5 (.cons (.v 2) .nil))) (.cons (.ret (.call 11 (.cons (.ix (.v 2) (.int 0)) (.cons (.ix (.v 2) (.int 1)) .nil)))) .nil))))
def f12 : Fn := ⟨"at_least", "at_least", true, 2, ["first", "second", "lots"], b12, true, false⟩
/-- _law_purse(script, at): 0 script 1 at 2 cell 3 size 4 one -/
def b13 : Sms := (.cons (.asg (.n 2) (.ife (.cmp .lt (.v 1) (.bi .len (.cons (.v 0) .nil))) (.bi .int (.cons (.ix (.v 0) (.v 1)) .nil)) (.bin .mul (.int 31) (.bi .sum (.cons (.lc false (.n 4) (.val (.sl (.v 0) .no (.so (.int 4)))) .nil (.bi .int (.cons (.v 4) .nil))) .nil))))) (.cons (.asg (.n 3) (.bin .add (.bin .mul (.int 2) (.bi .abs (.cons (.v 2) .nil))) (.ife (.cmp .lt (.v 2) (.int 0)) (.int 1) (.int 0)))) (.cons (.ret (.lst true (.cons (.ife (.cmp .ge (.v 3) (.bin .pow (.int 10) (.int 18))) (.v 3) (.int 0)) (.cons (.bin .mod (.bi .int (.cons (.bin .add (.bin .add (.v 3) (.bin .mul (.v 1) (.int 104729))) (.int 12345)) .nil)) (.int 2147483629)) (.cons (.v 1) .nil))))) .nil)))
def f13 : Fn := ⟨"_law_purse", "_law_purse", true, 2, ["script", "at", "cell", "size", "one"], b13, true, false⟩
/-- _law_draw(purse, many): 0 purse 1 many 2 found -/
def b14 : Sms := (.cons (.ite (.cmp .gt (.ix (.v 0) (.int 0)) (.int 0)) (.cons (.asg (.n 2) (.bin .mod (.bi .int (.cons (.ix (.v 0) (.int 0)) .nil)) (.v 1))) (.cons (.asgI (.v 0) (.int 0) (.bin .fdiv (.ix (.v 0) (.int 0)) (.v 1))) (.cons (.ret (.v 2)) .nil))) .nil) (.cons (.augI (.v 0) (.int 2) .add (.int 1)) (.cons (.asgI (.v 0) (.int 1) (.bin .mod (.bi .int (.cons (.bin .add (.bin .mul (.ix (.v 0) (.int 1)) (.int 48271)) (.bin .mul (.ix (.v 0) (.int 2)) (.int 69621))) .nil)) (.int 2147483647))) (.cons (.ret (.bin .mod (.bin .fdiv (.bin .mod (.bi .int (.cons (.bin .add (.bin .mul (.ix (.v 0) (.int 1)) (.int 16807)) (.bin .mul (.ix (.v 0) (.int 2)) (.int 7919))) .nil)) (.int 2147483629)) (.int 8)) (.v 1))) .nil))))
def f14 : Fn := ⟨"_law_draw", "_law_draw", true, 2, ["purse", "many", "found"], b14, true, false⟩
/-- _law_mix(purse, things): 0 purse 1 things 2 left 3 mixed 4 turn -/
def b15_1 : Sms := (.cons (.ex (.bm .append (.v 3) (.cons (.bm .popAt (.v 2) (.cons (.call 14 (.cons (.v 0) (.cons (.bi .len (.cons (.v 2) .nil)) .nil))) .nil)) .nil))) .nil)
def b15 : Sms := (.cons (.asg (.n 2) (.bi (.list true) (.cons (.v 1) .nil))) (.cons (.asg (.n 3) (.lst true .nil)) (.cons (.fo (.n 4) (.rng1 (.bi .len (.cons (.v 1) .nil))) b15_1) (.cons (.ret (.frz (.v 3))) .nil))))
def f15 : Fn := ⟨"_law_mix", "_law_mix", true, 2, ["purse", "things", "left", "mixed", "turn"], b15, true, false⟩
/-- _law_subsets(row): 0 row 1 found 2 one 3 part -/
def b16_1 : Sms := (.cons (.asg (.n 1) (.bin .add (.v 1) (.lc false (.n 3) (.val (.v 1)) .nil (.bin .add (.v 3) (.tup (.cons (.v 2) .nil)))))) .nil)
def b16 : Sms := (.cons (.asg (.n 1) (.lst false (.cons (.tup .nil) .nil))) (.cons (.fo (.n 2) (.val (.v 0)) b16_1) (.cons (.ret (.srtk (.v 1))) .nil)))
def f16 : Fn := ⟨"_law_subsets", "_law_subsets", true, 1, ["row", "found", "one", "part"], b16, true, true⟩
/-- _law_fits(one, other): 0 one 1 other 2 skill -/
def b17 : Sms := (.cons (.ite (.cmp .ne (.lc false (.n 2) (.val (.ix (.v 0) (.int 0))) (.cons (.cmp .nin (.v 2) (.ix (.v 1) (.int 0))) .nil) (.v 2)) (.lst false .nil)) (.cons (.ret (.bl false)) .nil) .nil) (.cons (.ret (.cmp .le (.ix (.v 0) (.int 1)) (.ix (.v 1) (.int 1)))) .nil))
def f17 : Fn := ⟨"_law_fits", "_law_fits", true, 2, ["one", "other", "skill"], b17, true, false⟩
/-- _law_piece(purse, pool, most): 0 purse 1 pool 2 most 3 skills -/
def b18 : Sms := (.cons (.asg (.n 3) (.bi (.sorted false) (.cons (.sl (.call 15 (.cons (.v 0) (.cons (.v 1) .nil))) .no (.so (.bin .add (.int 1) (.call 14 (.cons (.v 0) (.cons (.bi .min2 (.cons (.int 3) (.cons (.bi .len (.cons (.v 1) .nil)) .nil))) .nil)))))) .nil))) (.cons (.ret (.tup (.cons (.bi .tuple (.cons (.v 3) .nil)) (.cons (.bin .add (.int 1) (.call 14 (.cons (.v 0) (.cons (.v 2) .nil)))) .nil)))) .nil))
def f18 : Fn := ⟨"_law_piece", "_law_piece", true, 3, ["purse", "pool", "most", "skills"], b18, true, false⟩
/-- _law_lot(purse, pool, most, many): 0 purse 1 pool 2 most 3 many 4 turn -/
def b19 : Sms := (.cons (.ret (.lc true (.n 4) (.rng1 (.v 3)) .nil (.call 18 (.cons (.v 0) (.cons (.v 1) (.cons (.v 2) .nil)))))) .nil)
def f19 : Fn := ⟨"_law_lot", "_law_lot", true, 4, ["purse", "pool", "most", "many", "turn"], b19, true, false⟩
/-- _law_easier(purse, piece, pool): 0 purse 1 piece 2 pool 3 skills 4 skill -/
def b20_1 : Sms := (.cons (.ite (.tand (.cons (.cmp .nin (.v 4) (.v 3)) (.cons (.cmp .eq (.call 14 (.cons (.v 0) (.cons (.int 4) .nil))) (.int 0)) .nil))) (.cons (.ex (.bm .append (.v 3) (.cons (.v 4) .nil))) .nil) .nil) .nil)
def b20 : Sms := (.cons (.asg (.n 3) (.bi (.list true) (.cons (.ix (.v 1) (.int 0)) .nil))) (.cons (.fo (.n 4) (.val (.v 2)) b20_1) (.cons (.ret (.tup (.cons (.bi .tuple (.cons (.bi (.sorted false) (.cons (.v 3) .nil)) .nil)) (.cons (.bi .min2 (.cons (.int 30) (.cons (.bin .add (.ix (.v 1) (.int 1)) (.bin .fdiv (.call 14 (.cons (.v 0) (.cons (.int 3) .nil))) (.int 2))) .nil))) .nil)))) .nil)))
def f20 : Fn := ⟨"_law_easier", "_law_easier", true, 3, ["purse", "piece", "pool", "skills", "skill"], b20, true, false⟩
/-- _law_cases(purse, pool, most, many): 0 purse 1 pool 2 most 3 many 4 second 5 some 6 laid 7 hard 8 spoilt 9 extra 10 over 11 drawn 12 piece -/
def b21 : Sms := (.cons (.asg (.n 4) (.call 19 (.cons (.v 0) (.cons (.v 1) (.cons (.v 2) (.cons (.v 3) .nil)))))) (.cons (.ite (.cmp .eq (.v 3) (.int 10)) (.cons (.asgI (.v 4) (.int 9) (.tup (.cons (.bi .tuple (.cons (.bi (.sorted false) (.cons (.v 1) .nil)) .nil)) (.cons (.v 2) .nil)))) .nil) .nil) (.cons (.asg (.n 5) (.sl (.call 15 (.cons (.v 0) (.cons (.v 4) .nil))) .no (.so (.ife (.cmp .gt (.v 3) (.int 0)) (.bin .sub (.v 3) (.call 14 (.cons (.v 0) (.cons (.int 2) .nil)))) (.int 0))))) (.cons (.asg (.n 6) (.call 15 (.cons (.v 0) (.cons (.lc false (.n 12) (.val (.v 5)) .nil (.call 20 (.cons (.v 0) (.cons (.v 12) (.cons (.v 1) .nil))))) .nil)))) (.cons (.asg (.n 7) (.tup (.cons (.tup (.cons (.ix (.v 1) (.int 0)) .nil)) (.cons (.int 1) .nil)))) (.cons (.asg (.n 8) (.lc false (.n 12) (.val (.v 4)) (.cons (.cmp .ne (.v 12) (.v 7)) .nil) (.v 12))) (.cons (.asg (.n 9) (.bin .mul (.lst false (.cons (.v 7) .nil)) (.bin .sub (.bin .add (.int 1) (.bi .len (.cons (.v 4) .nil))) (.bi .len (.cons (.v 8) .nil))))) (.cons (.asg (.n 10) (.call 15 (.cons (.v 0) (.cons (.bin .add (.sl (.v 6) .no (.so (.bi .max2 (.cons (.int 0) (.cons (.bi .min2 (.cons (.bi .len (.cons (.v 6) .nil)) (.cons (.bin .sub (.int 10) (.bi .len (.cons (.v 9) .nil))) .nil))) .nil))))) (.v 9)) .nil)))) (.cons (.asg (.n 11) (.lst false (.cons (.call 19 (.cons (.v 0) (.cons (.v 1) (.cons (.v 2) (.cons (.call 14 (.cons (.v 0) (.cons (.int 5) .nil))) .nil))))) (.cons (.call 19 (.cons (.v 0) (.cons (.v 1) (.cons (.v 2) (.cons (.call 14 (.cons (.v 0) (.cons (.int 5) .nil))) .nil))))) .nil)))) (.cons (.ret (.lst false (.cons (.lst false (.cons (.v 6) (.cons (.v 4) .nil))) (.cons (.lst false (.cons (.v 10) (.cons (.v 4) .nil))) (.cons (.v 11) .nil))))) .nil))))))))))
def f21 : Fn := ⟨"_law_cases", "_law_cases", true, 4, ["purse", "pool", "most", "many", "second", "some", "laid", "hard", "spoilt", "extra", "over", "drawn", "piece"], b21, true, false⟩
/-- _law_short(first, second): 0 first 1 second 2 rows 3 masks 4 chosen 5 mask 6 at 7 near 8 piece 9 row 10 other 11 place -/
def b22_1 : Sms := (.cons (.asg (.n 5) (.bin .bor (.v 5) (.ix (.v 3) (.v 6)))) .nil)
def b22_2 : Sms := (.cons (.asg (.n 5) (.int 0)) (.cons (.fo (.n 6) (.val (.v 4)) b22_1) (.cons (.asg (.n 7) (.lc false (.n 11) (.rng1 (.bi .len (.cons (.v 1) .nil))) (.cons (.cmp .eq (.bin .band (.bin .shr (.v 5) (.v 11)) (.int 1)) (.int 1)) .nil) (.v 11))) (.cons (.ite (.cmp .lt (.bi .len (.cons (.v 7) .nil)) (.bi .len (.cons (.v 4) .nil))) (.cons (.ret (.tup (.cons (.v 4) (.cons (.bi .tuple (.cons (.v 7) .nil)) .nil)))) .nil) .nil) .nil))))
def b22 : Sms := (.cons (.asg (.n 2) (.lc false (.n 8) (.val (.v 0)) .nil (.lc false (.n 10) (.val (.v 1)) .nil (.call 17 (.cons (.v 10) (.cons (.v 8) .nil)))))) (.cons (.asg (.n 3) (.lc false (.n 9) (.val (.v 2)) .nil (.bi .sum (.cons (.lc false (.n 11) (.rng1 (.bi .len (.cons (.v 1) .nil))) (.cons (.val (.ix (.v 9) (.v 11))) .nil) (.bin .shl (.int 1) (.v 11))) .nil)))) (.cons (.fo (.n 4) (.val (.call 16 (.cons (.lrg false (.bi .len (.cons (.v 0) .nil))) .nil))) b22_2) (.cons (.ret .non) .nil))))
def f22 : Fn := ⟨"_law_short", "_law_short", true, 2, ["first", "second", "rows", "masks", "chosen", "mask", "at", "near", "piece", "row", "other", "place"], b22, true, false⟩
/-- _law_pairs_right(first, second, pairs): 0 first 1 second 2 pairs 3 used 4 at 5 pair -/
def b23_1 : Sms := (.cons (.asg (.n 5) (.ix (.v 2) (.v 4))) (.cons (.ite (.tor (.cons (.tnot (.val (.isi (.v 5) .tuple))) (.cons (.cmp .ne (.bi .len (.cons (.v 5) .nil)) (.int 2)) (.cons (.cmp .ne (.ix (.v 5) (.int 0)) (.v 4)) (.cons (.val (.isi (.ix (.v 5) (.int 1)) .bool)) .nil))))) (.cons (.ret (.bl false)) .nil) .nil) (.cons (.ite (.tor (.cons (.tnot (.val (.isi (.ix (.v 5) (.int 1)) .int))) (.cons (.tnot (.chn .le .lt (.int 0) (.ix (.v 5) (.int 1)) (.bi .len (.cons (.v 1) .nil)))) (.cons (.cmp .inn (.ix (.v 5) (.int 1)) (.v 3)) .nil)))) (.cons (.ret (.bl false)) .nil) .nil) (.cons (.ite (.tnot (.val (.call 17 (.cons (.ix (.v 1) (.ix (.v 5) (.int 1))) (.cons (.ix (.v 0) (.v 4)) .nil))))) (.cons (.ret (.bl false)) .nil) .nil) (.cons (.ex (.bm .append (.v 3) (.cons (.ix (.v 5) (.int 1)) .nil))) .nil)))))
def b23 : Sms := (.cons (.ite (.tor (.cons (.tnot (.val (.isi (.v 2) .list))) (.cons (.cmp .ne (.bi .len (.cons (.v 2) .nil)) (.bi .len (.cons (.v 0) .nil))) .nil))) (.cons (.ret (.bl false)) .nil) .nil) (.cons (.asg (.n 3) (.lst true .nil)) (.cons (.fo (.n 4) (.rng1 (.bi .len (.cons (.v 2) .nil))) b23_1) (.cons (.ret (.bl true)) .nil))))
def f23 : Fn := ⟨"_law_pairs_right", "_law_pairs_right", true, 3, ["first", "second", "pairs", "used", "at", "pair"], b23, true, false⟩
/-- _law_told(first, second): 0 first 1 second 2 e 3 told -/
def b24 : Sms := (.cons (.tr (.cons (.asg (.n 3) (.call 12 (.cons (.v 0) (.cons (.v 1) .nil)))) .nil) [(1, 2, (.tup (.cons (.str "bad") (.cons (.fld 0) .nil)))), (0, 2, (.tup (.cons (.str "many") (.cons (.fld 1) .nil))))]) (.cons (.ret (.v 3)) .nil))
def f24 : Fn := ⟨"_law_told", "_law_told", true, 2, ["first", "second", "e", "told"], b24, true, false⟩
/-- _law_right(first, second): 0 first 1 second 2 short 3 one 4 other 5 turn 6 told 7 piece 8 pairs -/
def b25_1 : Sms := (.cons (.asg (.n 6) (.call 24 (.cons (.v 3) (.cons (.v 4) .nil)))) (.cons (.ite (.tor (.cons (.cmp .ne (.v 3) (.v 0)) (.cons (.cmp .ne (.v 4) (.v 1)) (.cons (.tnot (.val (.isi (.v 6) .tuple))) (.cons (.cmp .eq (.bi .len (.cons (.v 6) .nil)) (.int 0)) .nil))))) (.cons (.ret (.bl false)) .nil) .nil) (.cons (.ite (.isN (.v 2)) (.cons (.ite (.tor (.cons (.cmp .ne (.ix (.v 6) (.int 0)) (.str "yes")) (.cons (.cmp .ne (.bi .len (.cons (.v 6) .nil)) (.int 2)) (.cons (.tnot (.val (.call 23 (.cons (.v 0) (.cons (.v 1) (.cons (.ix (.v 6) (.int 1)) .nil)))))) .nil)))) (.cons (.ret (.bl false)) .nil) .nil) (.cons (.asg (.n 8) (.ix (.v 6) (.int 1))) (.cons (.ex (.bm .append (.v 8) (.cons (.tup (.cons (.int 0) (.cons (.int 0) .nil))) .nil))) .nil))) (.cons (.ite (.cmp .ne (.v 6) (.tup (.cons (.str "no") (.cons (.ix (.v 2) (.int 0)) (.cons (.ix (.v 2) (.int 1)) .nil))))) (.cons (.ret (.bl false)) .nil) .nil) .nil)) .nil)))
def b25 : Sms := (.cons (.asg (.n 2) (.call 22 (.cons (.v 0) (.cons (.v 1) .nil)))) (.cons (.asg (.n 3) (.lc false (.n 7) (.val (.v 0)) .nil (.v 7))) (.cons (.asg (.n 4) (.lc false (.n 7) (.val (.v 1)) .nil (.v 7))) (.cons (.fo (.n 5) (.rng1 (.int 2)) b25_1) (.cons (.ret (.bl true)) .nil)))))
def f25 : Fn := ⟨"_law_right", "_law_right", true, 2, ["first", "second", "short", "one", "other", "turn", "told", "piece", "pairs"], b25, true, false⟩
/-- _law_harder_told(a, b): 0 a 1 b 2 e 3 told -/
def b26 : Sms := (.cons (.tr (.cons (.asg (.n 3) (.call 7 (.cons (.v 0) (.cons (.v 1) .nil)))) .nil) [(1, 2, (.tup (.cons (.str "bad") (.cons (.fld 0) .nil)))), (0, 2, (.tup (.cons (.str "many") (.cons (.fld 1) .nil))))]) (.cons (.ret (.v 3)) .nil))
def f26 : Fn := ⟨"_law_harder_told", "_law_harder_told", true, 2, ["a", "b", "e", "told"], b26, true, false⟩
/-- _law_harder_right(lot): 0 lot 1 a 2 b 3 told -/
def b27_1 : Sms := (.cons (.asg (.n 3) (.call 26 (.cons (.v 1) (.cons (.v 2) .nil)))) (.cons (.ite (.tor (.cons (.tnot (.val (.isi (.v 3) .bool))) (.cons (.cmp .ne (.v 3) (.call 17 (.cons (.v 1) (.cons (.v 2) .nil)))) .nil))) (.cons (.ret (.bl false)) .nil) .nil) .nil))
def b27_2 : Sms := (.cons (.fo (.n 2) (.val (.v 0)) b27_1) .nil)
def b27 : Sms := (.cons (.fo (.n 1) (.val (.v 0)) b27_2) (.cons (.ret (.bl true)) .nil))
def f27 : Fn := ⟨"_law_harder_right", "_law_harder_right", true, 1, ["lot", "a", "b", "told"], b27, true, false⟩
/-- _law_wrong(purse, piece): 0 purse 1 piece 2 last 3 kinds 4 skills 5 due -/
def b28 : Sms := (.cons (.asg (.t [4, 5]) (.v 1)) (.cons (.asg (.n 2) (.ix (.v 4) (.bin .sub (.bi .len (.cons (.v 4) .nil)) (.int 1)))) (.cons (.asg (.n 3) (.lst true (.cons (.tup (.cons (.tup .nil) (.cons (.v 5) .nil))) (.cons (.tup (.cons (.bin .add (.tup (.cons (.int 0) .nil)) (.v 4)) (.cons (.v 5) .nil))) (.cons (.tup (.cons (.bin .add (.v 4) (.tup (.cons (.v 2) .nil))) (.cons (.v 5) .nil))) (.cons (.tup (.cons (.v 4) (.cons (.int 0) .nil))) (.cons (.tup (.cons (.v 4) (.cons (.bin .sub (.neg (.int 1)) (.call 14 (.cons (.v 0) (.cons (.int 3) .nil)))) .nil))) (.cons (.tup (.cons (.tup (.cons (.neg (.int 2)) .nil)) (.cons (.v 5) .nil))) .nil)))))))) (.cons (.ite (.cmp .gt (.bi .len (.cons (.v 4) .nil)) (.int 1)) (.cons (.ex (.bm .append (.v 3) (.cons (.tup (.cons (.bin .add (.sl (.v 4) (.so (.int 1)) .no) (.sl (.v 4) .no (.so (.int 1)))) (.cons (.v 5) .nil))) .nil))) .nil) .nil) (.cons (.ret (.ix (.v 3) (.call 14 (.cons (.v 0) (.cons (.bi .len (.cons (.v 3) .nil)) .nil))))) .nil)))))
def f28 : Fn := ⟨"_law_wrong", "_law_wrong", true, 2, ["purse", "piece", "last", "kinds", "skills", "due"], b28, true, false⟩
/-- _law_refused(purse, pool, most): 0 purse 1 pool 2 most 3 first 4 second 5 at 6 rows 7 bad 8 piece 9 late 10 great 11 most_piece 12 skill -/
def b29 : Sms := (.cons (.asg (.n 3) (.call 19 (.cons (.v 0) (.cons (.v 1) (.cons (.v 2) (.cons (.bin .add (.int 1) (.call 14 (.cons (.v 0) (.cons (.int 4) .nil)))) .nil)))))) (.cons (.asg (.n 4) (.call 19 (.cons (.v 0) (.cons (.v 1) (.cons (.v 2) (.cons (.bin .add (.int 1) (.call 14 (.cons (.v 0) (.cons (.int 4) .nil)))) .nil)))))) (.cons (.asg (.n 5) (.call 14 (.cons (.v 0) (.cons (.bin .add (.bi .len (.cons (.v 3) .nil)) (.bi .len (.cons (.v 4) .nil))) .nil)))) (.cons (.asg (.n 6) (.bin .add (.v 3) (.v 4))) (.cons (.asg (.n 7) (.bin .add (.bin .add (.sl (.v 6) .no (.so (.v 5))) (.lst false (.cons (.call 28 (.cons (.v 0) (.cons (.ix (.v 6) (.v 5)) .nil))) .nil))) (.sl (.v 6) (.so (.bin .add (.v 5) (.int 1))) .no))) (.cons (.ite (.cmp .ne (.call 24 (.cons (.sl (.v 7) .no (.so (.bi .len (.cons (.v 3) .nil)))) (.cons (.sl (.v 7) (.so (.bi .len (.cons (.v 3) .nil))) .no) .nil))) (.tup (.cons (.str "bad") (.cons (.v 5) .nil)))) (.cons (.ret (.bl false)) .nil) .nil) (.cons (.ite (.cmp .ne (.call 24 (.cons (.sl (.v 7) .no (.so (.bi .len (.cons (.v 3) .nil)))) (.cons (.bin .add (.sl (.v 7) (.so (.bi .len (.cons (.v 3) .nil))) .no) (.lst false (.cons (.tup (.cons (.tup .nil) (.cons (.int 0) .nil))) .nil))) .nil))) (.tup (.cons (.str "bad") (.cons (.v 5) .nil)))) (.cons (.ret (.bl false)) .nil) .nil) (.cons (.ite (.cmp .ne (.call 26 (.cons (.call 28 (.cons (.v 0) (.cons (.ix (.v 6) (.int 0)) .nil))) (.cons (.tup (.cons (.tup .nil) (.cons (.int 0) .nil))) .nil))) (.tup (.cons (.str "bad") (.cons (.int 0) .nil)))) (.cons (.ret (.bl false)) .nil) .nil) (.cons (.ite (.cmp .ne (.call 26 (.cons (.ix (.v 6) (.int 0)) (.cons (.call 28 (.cons (.v 0) (.cons (.ix (.v 6) (.int 0)) .nil))) .nil))) (.tup (.cons (.str "bad") (.cons (.int 1) .nil)))) (.cons (.ret (.bl false)) .nil) .nil) (.cons (.asg (.n 8) (.ix (.v 6) (.call 14 (.cons (.v 0) (.cons (.bi .len (.cons (.v 6) .nil)) .nil))))) (.cons (.asg (.n 9) (.tup (.cons (.ix (.v 8) (.int 0)) (.cons (.bin .add (.int 31) (.bin .mul (.call 14 (.cons (.v 0) (.cons (.int 9) .nil))) (.bin .pow (.int 10) (.int 8)))) .nil)))) (.cons (.asg (.n 10) (.tup (.cons (.bi .tuple (.cons (.bin .add (.lc false (.n 12) (.val (.ix (.v 8) (.int 0))) (.cons (.cmp .lt (.v 12) (.int 8)) .nil) (.v 12)) (.lst false (.cons (.bin .add (.int 9) (.call 14 (.cons (.v 0) (.cons (.int 9) .nil)))) .nil))) .nil)) (.cons (.ix (.v 8) (.int 1)) .nil)))) (.cons (.ite (.tor (.cons (.cmp .ne (.call 24 (.cons (.lst false (.cons (.v 8) (.cons (.v 9) .nil))) (.cons (.v 7) .nil))) (.tup (.cons (.str "many") (.cons (.str "bells") .nil)))) (.cons (.cmp .ne (.call 24 (.cons (.lst false (.cons (.v 9) .nil)) (.cons (.lst false (.cons (.v 10) .nil)) .nil))) (.tup (.cons (.str "many") (.cons (.str "skills") .nil)))) .nil))) (.cons (.ret (.bl false)) .nil) .nil) (.cons (.ite (.tor (.cons (.cmp .ne (.call 26 (.cons (.v 8) (.cons (.v 9) .nil))) (.tup (.cons (.str "many") (.cons (.str "bells") .nil)))) (.cons (.cmp .ne (.call 26 (.cons (.v 10) (.cons (.v 9) .nil))) (.tup (.cons (.str "many") (.cons (.str "skills") .nil)))) .nil))) (.cons (.ret (.bl false)) .nil) .nil) (.cons (.ite (.tor (.cons (.cmp .ne (.call 24 (.cons (.lst false (.cons (.v 9) .nil)) (.cons (.bin .mul (.lst false (.cons (.v 10) .nil)) (.int 11)) .nil))) (.tup (.cons (.str "many") (.cons (.str "drops") .nil)))) (.cons (.cmp .ne (.call 24 (.cons (.bin .mul (.lst false (.cons (.v 8) .nil)) (.int 11)) (.cons (.lst false .nil) .nil))) (.tup (.cons (.str "many") (.cons (.str "drops") .nil)))) .nil))) (.cons (.ret (.bl false)) .nil) .nil) (.cons (.asg (.n 11) (.tup (.cons (.tup (.cons (.int 1) (.cons (.int 2) (.cons (.int 3) (.cons (.int 4) (.cons (.int 5) (.cons (.int 6) (.cons (.int 7) (.cons (.int 8) .nil))))))))) (.cons (.int 30) .nil)))) (.cons (.ret (.andV (.cons (.call 25 (.cons (.bin .mul (.lst false (.cons (.v 11) .nil)) (.int 2)) (.cons (.lst false (.cons (.v 8) (.cons (.v 11) .nil))) .nil))) (.cons (.isB true (.call 26 (.cons (.v 8) (.cons (.v 11) .nil)))) .nil)))) .nil)))))))))))))))))
def f29 : Fn := ⟨"_law_refused", "_law_refused", true, 3, ["purse", "pool", "most", "first", "second", "at", "rows", "bad", "piece", "late", "great", "most_piece", "skill"], b29, true, false⟩
/-- law(script): 0 script 1 purse 2 pool 3 most 4 many 5 cases 6 first 7 second -/
def b30_1 : Sms := (.cons (.ite (.tnot (.val (.call 25 (.cons (.v 6) (.cons (.v 7) .nil))))) (.cons (.ret (.bl false)) .nil) .nil) .nil)
def b30 : Sms := (.cons (.asg (.n 1) (.call 13 (.cons (.v 0) (.cons (.int 0) .nil)))) (.cons (.asg (.n 2) (.sl (.call 15 (.cons (.v 1) (.cons (.lrg2 false (.int 1) (.int 9)) .nil))) .no (.so (.ix (.lst false (.cons (.int 2) (.cons (.int 3) (.cons (.int 4) (.cons (.int 4) (.cons (.int 8) .nil)))))) (.call 14 (.cons (.v 1) (.cons (.int 5) .nil))))))) (.cons (.asg (.n 3) (.ix (.lst false (.cons (.int 1) (.cons (.int 2) (.cons (.int 3) (.cons (.int 30) .nil))))) (.call 14 (.cons (.v 1) (.cons (.int 4) .nil))))) (.cons (.asg (.n 4) (.ife (.cmp .eq (.call 14 (.cons (.v 1) (.cons (.int 16) .nil))) (.int 0)) (.int 10) (.call 14 (.cons (.v 1) (.cons (.int 6) .nil))))) (.cons (.asg (.n 5) (.call 21 (.cons (.v 1) (.cons (.v 2) (.cons (.v 3) (.cons (.v 4) .nil)))))) (.cons (.ite (.tor (.cons (.notN (.call 22 (.cons (.ix (.ix (.v 5) (.int 0)) (.int 0)) (.cons (.ix (.ix (.v 5) (.int 0)) (.int 1)) .nil)))) (.cons (.isN (.call 22 (.cons (.ix (.ix (.v 5) (.int 1)) (.int 0)) (.cons (.ix (.ix (.v 5) (.int 1)) (.int 1)) .nil)))) .nil))) (.cons (.ret (.bl false)) .nil) .nil) (.cons (.fo (.t [6, 7]) (.val (.v 5)) b30_1) (.cons (.ite (.tnot (.val (.call 27 (.cons (.bin .add (.bin .add (.sl (.ix (.ix (.v 5) (.int 0)) (.int 0)) .no (.so (.int 3))) (.sl (.ix (.ix (.v 5) (.int 0)) (.int 1)) .no (.so (.int 3)))) (.sl (.ix (.ix (.v 5) (.int 2)) (.int 0)) .no (.so (.int 2)))) .nil)))) (.cons (.ret (.bl false)) .nil) .nil) (.cons (.ret (.call 29 (.cons (.v 1) (.cons (.v 2) (.cons (.v 3) .nil))))) .nil)))))))))
def f30 : Fn := ⟨"law", "law", true, 1, ["script", "purse", "pool", "most", "many", "cases", "first", "second"], b30, true, false⟩
def P : Pg := ⟨[f0, f1, f2, f3, f4, f5, f6, f7, f8, f9, f10, f11, f12, f13, f14, f15, f16, f17, f18, f19, f20, f21, f22, f23, f24, f25, f26, f27, f28, f29, f30], [], [⟨"TooMany", [1], [0]⟩, ⟨"BadPiece", [0], [1]⟩], ["place", "what"]⟩
end K29

/-! what the text says -/
namespace K29T
open PySem PySem.Spec PyProof.Rows L2 G K29
def top (i : Nat) : Stmt := PySem.Challenge.pw_whoevercomes_k29_pieces_laid_side_by_sid.main.body.getD i (.Pass ⟨0, 0, 0, 0⟩)
abbrev st0 : Stmt := top 5
abbrev st1 : Stmt := top 7
abbrev st2 : Stmt := top 8
abbrev st3 : Stmt := top 10
abbrev st4 : Stmt := top 11
abbrev st5 : Stmt := top 12
abbrev st6 : Stmt := top 13
abbrev st7 : Stmt := top 14
abbrev st8 : Stmt := top 15
abbrev st9 : Stmt := top 16
abbrev st10 : Stmt := top 18
abbrev st11 : Stmt := top 19
abbrev st12 : Stmt := top 20
abbrev st13 : Stmt := top 22
abbrev st14 : Stmt := top 23
abbrev st15 : Stmt := top 24
abbrev st16 : Stmt := top 25
abbrev st17 : Stmt := top 26
abbrev st18 : Stmt := top 27
abbrev st19 : Stmt := top 28
abbrev st20 : Stmt := top 29
abbrev st21 : Stmt := top 30
abbrev st22 : Stmt := top 31
abbrev st23 : Stmt := top 32
abbrev st24 : Stmt := top 33
abbrev st25 : Stmt := top 34
abbrev st26 : Stmt := top 35
abbrev st27 : Stmt := top 36
abbrev st28 : Stmt := top 37
abbrev st29 : Stmt := top 38
abbrev st30 : Stmt := top 39
abbrev se0 : Stmt := inClass (top 2) 0
abbrev se1 : Stmt := inClass (top 3) 0
theorem ck0 : chkSs ⟨P, defScope st0, f0.names, fun _ => true, f0.lam⟩ f0.body (defBody st0) = true := by decide +kernel
theorem sc0 : FnScope f0.names (f0.names.take f0.np) (defScope st0) := ⟨by decide +kernel, by decide +kernel, by decide +kernel, by decide +kernel, by decide +kernel, by decide +kernel, by decide +kernel⟩
theorem ck1 : chkSs ⟨P, defScope st1, f1.names, fun _ => true, f1.lam⟩ f1.body (defBody st1) = true := by decide +kernel
theorem sc1 : FnScope f1.names (f1.names.take f1.np) (defScope st1) := ⟨by decide +kernel, by decide +kernel, by decide +kernel, by decide +kernel, by decide +kernel, by decide +kernel, by decide +kernel⟩
theorem ck2 : chkSs ⟨P, defScope st2, f2.names, fun _ => true, f2.lam⟩ f2.body (defBody st2) = true := by decide +kernel
theorem sc2 : FnScope f2.names (f2.names.take f2.np) (defScope st2) := ⟨by decide +kernel, by decide +kernel, by decide +kernel, by decide +kernel, by decide +kernel, by decide +kernel, by decide +kernel⟩
theorem ck3 : chkSs ⟨P, defScope st3, f3.names, fun _ => true, f3.lam⟩ f3.body (defBody st3) = true := by decide +kernel
theorem sc3 : FnScope f3.names (f3.names.take f3.np) (defScope st3) := ⟨by decide +kernel, by decide +kernel, by decide +kernel, by decide +kernel, by decide +kernel, by decide +kernel, by decide +kernel⟩
theorem ck4 : chkSs ⟨P, defScope st4, f4.names, fun _ => true, f4.lam⟩ f4.body (defBody st4) = true := by decide +kernel
theorem sc4 : FnScope f4.names (f4.names.take f4.np) (defScope st4) := ⟨by decide +kernel, by decide +kernel, by decide +kernel, by decide +kernel, by decide +kernel, by decide +kernel, by decide +kernel⟩
theorem ck5 : chkSs ⟨P, defScope st5, f5.names, fun _ => true, f5.lam⟩ f5.body (defBody st5) = true := by decide +kernel
theorem sc5 : FnScope f5.names (f5.names.take f5.np) (defScope st5) := ⟨by decide +kernel, by decide +kernel, by decide +kernel, by decide +kernel, by decide +kernel, by decide +kernel, by decide +kernel⟩
theorem ck6 : chkSs ⟨P, defScope st6, f6.names, fun _ => true, f6.lam⟩ f6.body (defBody st6) = true := by decide +kernel
theorem sc6 : FnScope f6.names (f6.names.take f6.np) (defScope st6) := ⟨by decide +kernel, by decide +kernel, by decide +kernel, by decide +kernel, by decide +kernel, by decide +kernel, by decide +kernel⟩
theorem ck7 : chkSs ⟨P, defScope st7, f7.names, fun _ => true, f7.lam⟩ f7.body (defBody st7) = true := by decide +kernel
theorem sc7 : FnScope f7.names (f7.names.take f7.np) (defScope st7) := ⟨by decide +kernel, by decide +kernel, by decide +kernel, by decide +kernel, by decide +kernel, by decide +kernel, by decide +kernel⟩
theorem ck8 : chkSs ⟨P, defScope st8, f8.names, fun _ => true, f8.lam⟩ f8.body (defBody st8) = true := by decide +kernel
theorem sc8 : FnScope f8.names (f8.names.take f8.np) (defScope st8) := ⟨by decide +kernel, by decide +kernel, by decide +kernel, by decide +kernel, by decide +kernel, by decide +kernel, by decide +kernel⟩
theorem ck9 : chkSs ⟨P, defScope st9, f9.names, fun _ => true, f9.lam⟩ f9.body (defBody st9) = true := by decide +kernel
theorem sc9 : FnScope f9.names (f9.names.take f9.np) (defScope st9) := ⟨by decide +kernel, by decide +kernel, by decide +kernel, by decide +kernel, by decide +kernel, by decide +kernel, by decide +kernel⟩
theorem ck10 : chkSs ⟨P, defScope st10, f10.names, fun _ => true, f10.lam⟩ f10.body (defBody st10) = true := by decide +kernel
theorem sc10 : FnScope f10.names (f10.names.take f10.np) (defScope st10) := ⟨by decide +kernel, by decide +kernel, by decide +kernel, by decide +kernel, by decide +kernel, by decide +kernel, by decide +kernel⟩
theorem ck11 : chkSs ⟨P, defScope st11, f11.names, fun _ => true, f11.lam⟩ f11.body (defBody st11) = true := by decide +kernel
theorem sc11 : FnScope f11.names (f11.names.take f11.np) (defScope st11) := ⟨by decide +kernel, by decide +kernel, by decide +kernel, by decide +kernel, by decide +kernel, by decide +kernel, by decide +kernel⟩
theorem ck12 : chkSs ⟨P, defScope st12, f12.names, fun _ => true, f12.lam⟩ f12.body (defBody st12) = true := by decide +kernel
theorem sc12 : FnScope f12.names (f12.names.take f12.np) (defScope st12) := ⟨by decide +kernel, by decide +kernel, by decide +kernel, by decide +kernel, by decide +kernel, by decide +kernel, by decide +kernel⟩
theorem ck13 : chkSs ⟨P, defScope st13, f13.names, fun _ => true, f13.lam⟩ f13.body (defBody st13) = true := by decide +kernel
theorem sc13 : FnScope f13.names (f13.names.take f13.np) (defScope st13) := ⟨by decide +kernel, by decide +kernel, by decide +kernel, by decide +kernel, by decide +kernel, by decide +kernel, by decide +kernel⟩
theorem ck14 : chkSs ⟨P, defScope st14, f14.names, fun _ => true, f14.lam⟩ f14.body (defBody st14) = true := by decide +kernel
theorem sc14 : FnScope f14.names (f14.names.take f14.np) (defScope st14) := ⟨by decide +kernel, by decide +kernel, by decide +kernel, by decide +kernel, by decide +kernel, by decide +kernel, by decide +kernel⟩
theorem ck15 : chkSs ⟨P, defScope st15, f15.names, fun _ => true, f15.lam⟩ f15.body (defBody st15) = true := by decide +kernel
theorem sc15 : FnScope f15.names (f15.names.take f15.np) (defScope st15) := ⟨by decide +kernel, by decide +kernel, by decide +kernel, by decide +kernel, by decide +kernel, by decide +kernel, by decide +kernel⟩
theorem ck16 : chkSs ⟨P, defScope st16, f16.names, fun _ => true, f16.lam⟩ f16.body (defBody st16) = true := by decide +kernel
theorem sc16 : FnScope f16.names (f16.names.take f16.np) (defScope st16) := ⟨by decide +kernel, by decide +kernel, by decide +kernel, by decide +kernel, by decide +kernel, by decide +kernel, by decide +kernel⟩
theorem ck17 : chkSs ⟨P, defScope st17, f17.names, fun _ => true, f17.lam⟩ f17.body (defBody st17) = true := by decide +kernel
theorem sc17 : FnScope f17.names (f17.names.take f17.np) (defScope st17) := ⟨by decide +kernel, by decide +kernel, by decide +kernel, by decide +kernel, by decide +kernel, by decide +kernel, by decide +kernel⟩
theorem ck18 : chkSs ⟨P, defScope st18, f18.names, fun _ => true, f18.lam⟩ f18.body (defBody st18) = true := by decide +kernel
theorem sc18 : FnScope f18.names (f18.names.take f18.np) (defScope st18) := ⟨by decide +kernel, by decide +kernel, by decide +kernel, by decide +kernel, by decide +kernel, by decide +kernel, by decide +kernel⟩
theorem ck19 : chkSs ⟨P, defScope st19, f19.names, fun _ => true, f19.lam⟩ f19.body (defBody st19) = true := by decide +kernel
theorem sc19 : FnScope f19.names (f19.names.take f19.np) (defScope st19) := ⟨by decide +kernel, by decide +kernel, by decide +kernel, by decide +kernel, by decide +kernel, by decide +kernel, by decide +kernel⟩
theorem ck20 : chkSs ⟨P, defScope st20, f20.names, fun _ => true, f20.lam⟩ f20.body (defBody st20) = true := by decide +kernel
theorem sc20 : FnScope f20.names (f20.names.take f20.np) (defScope st20) := ⟨by decide +kernel, by decide +kernel, by decide +kernel, by decide +kernel, by decide +kernel, by decide +kernel, by decide +kernel⟩
theorem ck21 : chkSs ⟨P, defScope st21, f21.names, fun _ => true, f21.lam⟩ f21.body (defBody st21) = true := by decide +kernel
theorem sc21 : FnScope f21.names (f21.names.take f21.np) (defScope st21) := ⟨by decide +kernel, by decide +kernel, by decide +kernel, by decide +kernel, by decide +kernel, by decide +kernel, by decide +kernel⟩
theorem ck22 : chkSs ⟨P, defScope st22, f22.names, fun _ => true, f22.lam⟩ f22.body (defBody st22) = true := by decide +kernel
theorem sc22 : FnScope f22.names (f22.names.take f22.np) (defScope st22) := ⟨by decide +kernel, by decide +kernel, by decide +kernel, by decide +kernel, by decide +kernel, by decide +kernel, by decide +kernel⟩
theorem ck23 : chkSs ⟨P, defScope st23, f23.names, fun _ => true, f23.lam⟩ f23.body (defBody st23) = true := by decide +kernel
theorem sc23 : FnScope f23.names (f23.names.take f23.np) (defScope st23) := ⟨by decide +kernel, by decide +kernel, by decide +kernel, by decide +kernel, by decide +kernel, by decide +kernel, by decide +kernel⟩
theorem ck24 : chkSs ⟨P, defScope st24, f24.names, fun _ => true, f24.lam⟩ f24.body (defBody st24) = true := by decide +kernel
theorem sc24 : FnScope f24.names (f24.names.take f24.np) (defScope st24) := ⟨by decide +kernel, by decide +kernel, by decide +kernel, by decide +kernel, by decide +kernel, by decide +kernel, by decide +kernel⟩
theorem ck25 : chkSs ⟨P, defScope st25, f25.names, fun _ => true, f25.lam⟩ f25.body (defBody st25) = true := by decide +kernel
theorem sc25 : FnScope f25.names (f25.names.take f25.np) (defScope st25) := ⟨by decide +kernel, by decide +kernel, by decide +kernel, by decide +kernel, by decide +kernel, by decide +kernel, by decide +kernel⟩
theorem ck26 : chkSs ⟨P, defScope st26, f26.names, fun _ => true, f26.lam⟩ f26.body (defBody st26) = true := by decide +kernel
theorem sc26 : FnScope f26.names (f26.names.take f26.np) (defScope st26) := ⟨by decide +kernel, by decide +kernel, by decide +kernel, by decide +kernel, by decide +kernel, by decide +kernel, by decide +kernel⟩
theorem ck27 : chkSs ⟨P, defScope st27, f27.names, fun _ => true, f27.lam⟩ f27.body (defBody st27) = true := by decide +kernel
theorem sc27 : FnScope f27.names (f27.names.take f27.np) (defScope st27) := ⟨by decide +kernel, by decide +kernel, by decide +kernel, by decide +kernel, by decide +kernel, by decide +kernel, by decide +kernel⟩
theorem ck28 : chkSs ⟨P, defScope st28, f28.names, fun _ => true, f28.lam⟩ f28.body (defBody st28) = true := by decide +kernel
theorem sc28 : FnScope f28.names (f28.names.take f28.np) (defScope st28) := ⟨by decide +kernel, by decide +kernel, by decide +kernel, by decide +kernel, by decide +kernel, by decide +kernel, by decide +kernel⟩
theorem ck29 : chkSs ⟨P, defScope st29, f29.names, fun _ => true, f29.lam⟩ f29.body (defBody st29) = true := by decide +kernel
theorem sc29 : FnScope f29.names (f29.names.take f29.np) (defScope st29) := ⟨by decide +kernel, by decide +kernel, by decide +kernel, by decide +kernel, by decide +kernel, by decide +kernel, by decide +kernel⟩
theorem ck30 : chkSs ⟨P, defScope st30, f30.names, fun _ => true, f30.lam⟩ f30.body (defBody st30) = true := by decide +kernel
theorem sc30 : FnScope f30.names (f30.names.take f30.np) (defScope st30) := ⟨by decide +kernel, by decide +kernel, by decide +kernel, by decide +kernel, by decide +kernel, by decide +kernel, by decide +kernel⟩
theorem df0 {Z : Gz} {mg : Str → Option Value} {a co tb : Addr} (hZ : Z.P = P) (ha : Z.fa 0 = a) (D : Dkl Z.K f0.name f0.qual st0 a co) (hg : mg f0.name = some (.ref a)) (h1 : (co, tb) ∈ Z.cds) (h2 : (tb, f0.qual ++ ".<locals>." ++ "<lambda>") ∈ Z.tbs) (h3 : ∀ p ∈ Z.tbs, p.1 = tb → p.2 = f0.qual ++ ".<locals>." ++ "<lambda>") : ∃ st fd, DefG Z mg 0 f0 st fd := by
  obtain ⟨fd, F, hco⟩ := D
  subst ha
  exact ⟨st0, fd, F, sc0, by decide, by rw [hZ]; exact ck0, F.binds (ps := f0.names.take f0.np) fun _ _ _ _ _ _ us hl => match us, hl with | [_], _ => rfl, fun _ => hg, fun _ => ⟨co, tb, hco, h1, h2, h3⟩⟩
theorem df1 {Z : Gz} {mg : Str → Option Value} {a : Addr} (hZ : Z.P = P) (ha : Z.fa 1 = a) (D : Dk Z.K f1.name f1.qual st1 a) (hg : mg f1.name = some (.ref a)) : ∃ st fd, DefG Z mg 1 f1 st fd := by
  obtain ⟨fd, F⟩ := D
  subst ha
  exact ⟨st1, fd, F, sc1, by decide, by rw [hZ]; exact ck1, F.binds (ps := f1.names.take f1.np) fun _ _ _ _ _ _ us hl => match us, hl with | [_], _ => rfl, fun _ => hg, fun h => by cases h⟩
theorem df2 {Z : Gz} {mg : Str → Option Value} {a : Addr} (hZ : Z.P = P) (ha : Z.fa 2 = a) (D : Dk Z.K f2.name f2.qual st2 a) (hg : mg f2.name = some (.ref a)) : ∃ st fd, DefG Z mg 2 f2 st fd := by
  obtain ⟨fd, F⟩ := D
  subst ha
  exact ⟨st2, fd, F, sc2, by decide, by rw [hZ]; exact ck2, F.binds (ps := f2.names.take f2.np) fun _ _ _ _ _ _ us hl => match us, hl with | [_, _, _], _ => rfl, fun _ => hg, fun h => by cases h⟩
theorem df3 {Z : Gz} {mg : Str → Option Value} {a : Addr} (hZ : Z.P = P) (ha : Z.fa 3 = a) (D : Dk Z.K f3.name f3.qual st3 a) (hg : mg f3.name = some (.ref a)) : ∃ st fd, DefG Z mg 3 f3 st fd := by
  obtain ⟨fd, F⟩ := D
  subst ha
  exact ⟨st3, fd, F, sc3, by decide, by rw [hZ]; exact ck3, F.binds (ps := f3.names.take f3.np) fun _ _ _ _ _ _ us hl => match us, hl with | [_], _ => rfl, fun _ => hg, fun h => by cases h⟩
theorem df4 {Z : Gz} {mg : Str → Option Value} {a : Addr} (hZ : Z.P = P) (ha : Z.fa 4 = a) (D : Dk Z.K f4.name f4.qual st4 a) (hg : mg f4.name = some (.ref a)) : ∃ st fd, DefG Z mg 4 f4 st fd := by
  obtain ⟨fd, F⟩ := D
  subst ha
  exact ⟨st4, fd, F, sc4, by decide, by rw [hZ]; exact ck4, F.binds (ps := f4.names.take f4.np) fun _ _ _ _ _ _ us hl => match us, hl with | [_, _], _ => rfl, fun _ => hg, fun h => by cases h⟩
theorem df5 {Z : Gz} {mg : Str → Option Value} {a : Addr} (hZ : Z.P = P) (ha : Z.fa 5 = a) (D : Dk Z.K f5.name f5.qual st5 a) (hg : mg f5.name = some (.ref a)) : ∃ st fd, DefG Z mg 5 f5 st fd := by
  obtain ⟨fd, F⟩ := D
  subst ha
  exact ⟨st5, fd, F, sc5, by decide, by rw [hZ]; exact ck5, F.binds (ps := f5.names.take f5.np) fun _ _ _ _ _ _ us hl => match us, hl with | [_], _ => rfl, fun _ => hg, fun h => by cases h⟩
theorem df6 {Z : Gz} {mg : Str → Option Value} {a : Addr} (hZ : Z.P = P) (ha : Z.fa 6 = a) (D : Dk Z.K f6.name f6.qual st6 a) (hg : mg f6.name = some (.ref a)) : ∃ st fd, DefG Z mg 6 f6 st fd := by
  obtain ⟨fd, F⟩ := D
  subst ha
  exact ⟨st6, fd, F, sc6, by decide, by rw [hZ]; exact ck6, F.binds (ps := f6.names.take f6.np) fun _ _ _ _ _ _ us hl => match us, hl with | [_, _], _ => rfl, fun _ => hg, fun h => by cases h⟩
theorem df7 {Z : Gz} {mg : Str → Option Value} {a : Addr} (hZ : Z.P = P) (ha : Z.fa 7 = a) (D : Dk Z.K f7.name f7.qual st7 a) (hg : mg f7.name = some (.ref a)) : ∃ st fd, DefG Z mg 7 f7 st fd := by
  obtain ⟨fd, F⟩ := D
  subst ha
  exact ⟨st7, fd, F, sc7, by decide, by rw [hZ]; exact ck7, F.binds (ps := f7.names.take f7.np) fun _ _ _ _ _ _ us hl => match us, hl with | [_, _], _ => rfl, fun _ => hg, fun h => by cases h⟩
theorem df8 {Z : Gz} {mg : Str → Option Value} {a : Addr} (hZ : Z.P = P) (ha : Z.fa 8 = a) (D : Dk Z.K f8.name f8.qual st8 a) (hg : mg f8.name = some (.ref a)) : ∃ st fd, DefG Z mg 8 f8 st fd := by
  obtain ⟨fd, F⟩ := D
  subst ha
  exact ⟨st8, fd, F, sc8, by decide, by rw [hZ]; exact ck8, F.binds (ps := f8.names.take f8.np) fun _ _ _ _ _ _ us hl => match us, hl with | [_, _, _, _], _ => rfl, fun _ => hg, fun h => by cases h⟩
theorem df9 {Z : Gz} {mg : Str → Option Value} {a : Addr} (hZ : Z.P = P) (ha : Z.fa 9 = a) (D : Dk Z.K f9.name f9.qual st9 a) (hg : mg f9.name = some (.ref a)) : ∃ st fd, DefG Z mg 9 f9 st fd := by
  obtain ⟨fd, F⟩ := D
  subst ha
  exact ⟨st9, fd, F, sc9, by decide, by rw [hZ]; exact ck9, F.binds (ps := f9.names.take f9.np) fun _ _ _ _ _ _ us hl => match us, hl with | [_], _ => rfl, fun _ => hg, fun h => by cases h⟩
theorem df10 {Z : Gz} {mg : Str → Option Value} {a : Addr} (hZ : Z.P = P) (ha : Z.fa 10 = a) (D : Dk Z.K f10.name f10.qual st10 a) (hg : mg f10.name = some (.ref a)) : ∃ st fd, DefG Z mg 10 f10 st fd := by
  obtain ⟨fd, F⟩ := D
  subst ha
  exact ⟨st10, fd, F, sc10, by decide, by rw [hZ]; exact ck10, F.binds (ps := f10.names.take f10.np) fun _ _ _ _ _ _ us hl => match us, hl with | [_, _], _ => rfl, fun _ => hg, fun h => by cases h⟩
theorem df11 {Z : Gz} {mg : Str → Option Value} {a : Addr} (hZ : Z.P = P) (ha : Z.fa 11 = a) (D : Dk Z.K f11.name f11.qual st11 a) (hg : mg f11.name = some (.ref a)) : ∃ st fd, DefG Z mg 11 f11 st fd := by
  obtain ⟨fd, F⟩ := D
  subst ha
  exact ⟨st11, fd, F, sc11, by decide, by rw [hZ]; exact ck11, F.binds (ps := f11.names.take f11.np) fun _ _ _ _ _ _ us hl => match us, hl with | [_, _], _ => rfl, fun _ => hg, fun h => by cases h⟩
theorem df12 {Z : Gz} {mg : Str → Option Value} {a : Addr} (hZ : Z.P = P) (ha : Z.fa 12 = a) (D : Dk Z.K f12.name f12.qual st12 a) (hg : mg f12.name = some (.ref a)) : ∃ st fd, DefG Z mg 12 f12 st fd := by
  obtain ⟨fd, F⟩ := D
  subst ha
  exact ⟨st12, fd, F, sc12, by decide, by rw [hZ]; exact ck12, F.binds (ps := f12.names.take f12.np) fun _ _ _ _ _ _ us hl => match us, hl with | [_, _], _ => rfl, fun _ => hg, fun h => by cases h⟩
theorem df13 {Z : Gz} {mg : Str → Option Value} {a : Addr} (hZ : Z.P = P) (ha : Z.fa 13 = a) (D : Dk Z.K f13.name f13.qual st13 a) (hg : mg f13.name = some (.ref a)) : ∃ st fd, DefG Z mg 13 f13 st fd := by
  obtain ⟨fd, F⟩ := D
  subst ha
  exact ⟨st13, fd, F, sc13, by decide, by rw [hZ]; exact ck13, F.binds (ps := f13.names.take f13.np) fun _ _ _ _ _ _ us hl => match us, hl with | [_, _], _ => rfl, fun _ => hg, fun h => by cases h⟩
theorem df14 {Z : Gz} {mg : Str → Option Value} {a : Addr} (hZ : Z.P = P) (ha : Z.fa 14 = a) (D : Dk Z.K f14.name f14.qual st14 a) (hg : mg f14.name = some (.ref a)) : ∃ st fd, DefG Z mg 14 f14 st fd := by
  obtain ⟨fd, F⟩ := D
  subst ha
  exact ⟨st14, fd, F, sc14, by decide, by rw [hZ]; exact ck14, F.binds (ps := f14.names.take f14.np) fun _ _ _ _ _ _ us hl => match us, hl with | [_, _], _ => rfl, fun _ => hg, fun h => by cases h⟩
theorem df15 {Z : Gz} {mg : Str → Option Value} {a : Addr} (hZ : Z.P = P) (ha : Z.fa 15 = a) (D : Dk Z.K f15.name f15.qual st15 a) (hg : mg f15.name = some (.ref a)) : ∃ st fd, DefG Z mg 15 f15 st fd := by
  obtain ⟨fd, F⟩ := D
  subst ha
  exact ⟨st15, fd, F, sc15, by decide, by rw [hZ]; exact ck15, F.binds (ps := f15.names.take f15.np) fun _ _ _ _ _ _ us hl => match us, hl with | [_, _], _ => rfl, fun _ => hg, fun h => by cases h⟩
theorem df16 {Z : Gz} {mg : Str → Option Value} {a co tb : Addr} (hZ : Z.P = P) (ha : Z.fa 16 = a) (D : Dkl Z.K f16.name f16.qual st16 a co) (hg : mg f16.name = some (.ref a)) (h1 : (co, tb) ∈ Z.cds) (h2 : (tb, f16.qual ++ ".<locals>." ++ "<lambda>") ∈ Z.tbs) (h3 : ∀ p ∈ Z.tbs, p.1 = tb → p.2 = f16.qual ++ ".<locals>." ++ "<lambda>") : ∃ st fd, DefG Z mg 16 f16 st fd := by
  obtain ⟨fd, F, hco⟩ := D
  subst ha
  exact ⟨st16, fd, F, sc16, by decide, by rw [hZ]; exact ck16, F.binds (ps := f16.names.take f16.np) fun _ _ _ _ _ _ us hl => match us, hl with | [_], _ => rfl, fun _ => hg, fun _ => ⟨co, tb, hco, h1, h2, h3⟩⟩
theorem df17 {Z : Gz} {mg : Str → Option Value} {a : Addr} (hZ : Z.P = P) (ha : Z.fa 17 = a) (D : Dk Z.K f17.name f17.qual st17 a) (hg : mg f17.name = some (.ref a)) : ∃ st fd, DefG Z mg 17 f17 st fd := by
  obtain ⟨fd, F⟩ := D
  subst ha
  exact ⟨st17, fd, F, sc17, by decide, by rw [hZ]; exact ck17, F.binds (ps := f17.names.take f17.np) fun _ _ _ _ _ _ us hl => match us, hl with | [_, _], _ => rfl, fun _ => hg, fun h => by cases h⟩
theorem df18 {Z : Gz} {mg : Str → Option Value} {a : Addr} (hZ : Z.P = P) (ha : Z.fa 18 = a) (D : Dk Z.K f18.name f18.qual st18 a) (hg : mg f18.name = some (.ref a)) : ∃ st fd, DefG Z mg 18 f18 st fd := by
  obtain ⟨fd, F⟩ := D
  subst ha
  exact ⟨st18, fd, F, sc18, by decide, by rw [hZ]; exact ck18, F.binds (ps := f18.names.take f18.np) fun _ _ _ _ _ _ us hl => match us, hl with | [_, _, _], _ => rfl, fun _ => hg, fun h => by cases h⟩
theorem df19 {Z : Gz} {mg : Str → Option Value} {a : Addr} (hZ : Z.P = P) (ha : Z.fa 19 = a) (D : Dk Z.K f19.name f19.qual st19 a) (hg : mg f19.name = some (.ref a)) : ∃ st fd, DefG Z mg 19 f19 st fd := by
  obtain ⟨fd, F⟩ := D
  subst ha
  exact ⟨st19, fd, F, sc19, by decide, by rw [hZ]; exact ck19, F.binds (ps := f19.names.take f19.np) fun _ _ _ _ _ _ us hl => match us, hl with | [_, _, _, _], _ => rfl, fun _ => hg, fun h => by cases h⟩
theorem df20 {Z : Gz} {mg : Str → Option Value} {a : Addr} (hZ : Z.P = P) (ha : Z.fa 20 = a) (D : Dk Z.K f20.name f20.qual st20 a) (hg : mg f20.name = some (.ref a)) : ∃ st fd, DefG Z mg 20 f20 st fd := by
  obtain ⟨fd, F⟩ := D
  subst ha
  exact ⟨st20, fd, F, sc20, by decide, by rw [hZ]; exact ck20, F.binds (ps := f20.names.take f20.np) fun _ _ _ _ _ _ us hl => match us, hl with | [_, _, _], _ => rfl, fun _ => hg, fun h => by cases h⟩
theorem df21 {Z : Gz} {mg : Str → Option Value} {a : Addr} (hZ : Z.P = P) (ha : Z.fa 21 = a) (D : Dk Z.K f21.name f21.qual st21 a) (hg : mg f21.name = some (.ref a)) : ∃ st fd, DefG Z mg 21 f21 st fd := by
  obtain ⟨fd, F⟩ := D
  subst ha
  exact ⟨st21, fd, F, sc21, by decide, by rw [hZ]; exact ck21, F.binds (ps := f21.names.take f21.np) fun _ _ _ _ _ _ us hl => match us, hl with | [_, _, _, _], _ => rfl, fun _ => hg, fun h => by cases h⟩
theorem df22 {Z : Gz} {mg : Str → Option Value} {a : Addr} (hZ : Z.P = P) (ha : Z.fa 22 = a) (D : Dk Z.K f22.name f22.qual st22 a) (hg : mg f22.name = some (.ref a)) : ∃ st fd, DefG Z mg 22 f22 st fd := by
  obtain ⟨fd, F⟩ := D
  subst ha
  exact ⟨st22, fd, F, sc22, by decide, by rw [hZ]; exact ck22, F.binds (ps := f22.names.take f22.np) fun _ _ _ _ _ _ us hl => match us, hl with | [_, _], _ => rfl, fun _ => hg, fun h => by cases h⟩
theorem df23 {Z : Gz} {mg : Str → Option Value} {a : Addr} (hZ : Z.P = P) (ha : Z.fa 23 = a) (D : Dk Z.K f23.name f23.qual st23 a) (hg : mg f23.name = some (.ref a)) : ∃ st fd, DefG Z mg 23 f23 st fd := by
  obtain ⟨fd, F⟩ := D
  subst ha
  exact ⟨st23, fd, F, sc23, by decide, by rw [hZ]; exact ck23, F.binds (ps := f23.names.take f23.np) fun _ _ _ _ _ _ us hl => match us, hl with | [_, _, _], _ => rfl, fun _ => hg, fun h => by cases h⟩
theorem df24 {Z : Gz} {mg : Str → Option Value} {a : Addr} (hZ : Z.P = P) (ha : Z.fa 24 = a) (D : Dk Z.K f24.name f24.qual st24 a) (hg : mg f24.name = some (.ref a)) : ∃ st fd, DefG Z mg 24 f24 st fd := by
  obtain ⟨fd, F⟩ := D
  subst ha
  exact ⟨st24, fd, F, sc24, by decide, by rw [hZ]; exact ck24, F.binds (ps := f24.names.take f24.np) fun _ _ _ _ _ _ us hl => match us, hl with | [_, _], _ => rfl, fun _ => hg, fun h => by cases h⟩
theorem df25 {Z : Gz} {mg : Str → Option Value} {a : Addr} (hZ : Z.P = P) (ha : Z.fa 25 = a) (D : Dk Z.K f25.name f25.qual st25 a) (hg : mg f25.name = some (.ref a)) : ∃ st fd, DefG Z mg 25 f25 st fd := by
  obtain ⟨fd, F⟩ := D
  subst ha
  exact ⟨st25, fd, F, sc25, by decide, by rw [hZ]; exact ck25, F.binds (ps := f25.names.take f25.np) fun _ _ _ _ _ _ us hl => match us, hl with | [_, _], _ => rfl, fun _ => hg, fun h => by cases h⟩
theorem df26 {Z : Gz} {mg : Str → Option Value} {a : Addr} (hZ : Z.P = P) (ha : Z.fa 26 = a) (D : Dk Z.K f26.name f26.qual st26 a) (hg : mg f26.name = some (.ref a)) : ∃ st fd, DefG Z mg 26 f26 st fd := by
  obtain ⟨fd, F⟩ := D
  subst ha
  exact ⟨st26, fd, F, sc26, by decide, by rw [hZ]; exact ck26, F.binds (ps := f26.names.take f26.np) fun _ _ _ _ _ _ us hl => match us, hl with | [_, _], _ => rfl, fun _ => hg, fun h => by cases h⟩
theorem df27 {Z : Gz} {mg : Str → Option Value} {a : Addr} (hZ : Z.P = P) (ha : Z.fa 27 = a) (D : Dk Z.K f27.name f27.qual st27 a) (hg : mg f27.name = some (.ref a)) : ∃ st fd, DefG Z mg 27 f27 st fd := by
  obtain ⟨fd, F⟩ := D
  subst ha
  exact ⟨st27, fd, F, sc27, by decide, by rw [hZ]; exact ck27, F.binds (ps := f27.names.take f27.np) fun _ _ _ _ _ _ us hl => match us, hl with | [_], _ => rfl, fun _ => hg, fun h => by cases h⟩
theorem df28 {Z : Gz} {mg : Str → Option Value} {a : Addr} (hZ : Z.P = P) (ha : Z.fa 28 = a) (D : Dk Z.K f28.name f28.qual st28 a) (hg : mg f28.name = some (.ref a)) : ∃ st fd, DefG Z mg 28 f28 st fd := by
  obtain ⟨fd, F⟩ := D
  subst ha
  exact ⟨st28, fd, F, sc28, by decide, by rw [hZ]; exact ck28, F.binds (ps := f28.names.take f28.np) fun _ _ _ _ _ _ us hl => match us, hl with | [_, _], _ => rfl, fun _ => hg, fun h => by cases h⟩
theorem df29 {Z : Gz} {mg : Str → Option Value} {a : Addr} (hZ : Z.P = P) (ha : Z.fa 29 = a) (D : Dk Z.K f29.name f29.qual st29 a) (hg : mg f29.name = some (.ref a)) : ∃ st fd, DefG Z mg 29 f29 st fd := by
  obtain ⟨fd, F⟩ := D
  subst ha
  exact ⟨st29, fd, F, sc29, by decide, by rw [hZ]; exact ck29, F.binds (ps := f29.names.take f29.np) fun _ _ _ _ _ _ us hl => match us, hl with | [_, _, _], _ => rfl, fun _ => hg, fun h => by cases h⟩
theorem df30 {Z : Gz} {mg : Str → Option Value} {a : Addr} (hZ : Z.P = P) (ha : Z.fa 30 = a) (D : Dk Z.K f30.name f30.qual st30 a) (hg : mg f30.name = some (.ref a)) : ∃ st fd, DefG Z mg 30 f30 st fd := by
  obtain ⟨fd, F⟩ := D
  subst ha
  exact ⟨st30, fd, F, sc30, by decide, by rw [hZ]; exact ck30, F.binds (ps := f30.names.take f30.np) fun _ _ _ _ _ _ us hl => match us, hl with | [_], _ => rfl, fun _ => hg, fun h => by cases h⟩
/-- where all stands -/
def ZZ (K : PySem.W.Frag) (wf : Nat) (fa cl ec : List Addr) (tbs : List (Addr × Str)) (cds : List (Addr × Addr)) : Gz := { P := P, K := K, cl := fun i => cl.getD i 0, ec := fun i => ec.getD i 0, wf := wf, fa := fun i => fa.getD i 0, tbs := tbs, cds := cds }
theorem all_mk {w : World} {K : PySem.W.Frag} {h : Heap} {mg : Str → Option Value} {fa : Addr} {wf n : Nat} (X : K.In h) (G : h.Ns mainGlobals mg) (hfa : mg "law" = some (.ref fa)) {q0 q1 q2 q3 q4 q5 q6 q7 q8 q9 q10 q11 q12 q13 q14 q15 q16 q17 q18 q19 q20 q21 q22 q23 q24 q25 q26 q27 q28 q29 q30 e0 i0 e1 i1 o0 t0_ o16 t16_ : Addr}
    (a0 : PySem.W.nsIn K mainGlobals f0.name = some (some (.ref q0)))
    (a1 : PySem.W.nsIn K mainGlobals f1.name = some (some (.ref q1)))
    (a2 : PySem.W.nsIn K mainGlobals f2.name = some (some (.ref q2)))
    (a3 : PySem.W.nsIn K mainGlobals f3.name = some (some (.ref q3)))
    (a4 : PySem.W.nsIn K mainGlobals f4.name = some (some (.ref q4)))
    (a5 : PySem.W.nsIn K mainGlobals f5.name = some (some (.ref q5)))
    (a6 : PySem.W.nsIn K mainGlobals f6.name = some (some (.ref q6)))
    (a7 : PySem.W.nsIn K mainGlobals f7.name = some (some (.ref q7)))
    (a8 : PySem.W.nsIn K mainGlobals f8.name = some (some (.ref q8)))
    (a9 : PySem.W.nsIn K mainGlobals f9.name = some (some (.ref q9)))
    (a10 : PySem.W.nsIn K mainGlobals f10.name = some (some (.ref q10)))
    (a11 : PySem.W.nsIn K mainGlobals f11.name = some (some (.ref q11)))
    (a12 : PySem.W.nsIn K mainGlobals f12.name = some (some (.ref q12)))
    (a13 : PySem.W.nsIn K mainGlobals f13.name = some (some (.ref q13)))
    (a14 : PySem.W.nsIn K mainGlobals f14.name = some (some (.ref q14)))
    (a15 : PySem.W.nsIn K mainGlobals f15.name = some (some (.ref q15)))
    (a16 : PySem.W.nsIn K mainGlobals f16.name = some (some (.ref q16)))
    (a17 : PySem.W.nsIn K mainGlobals f17.name = some (some (.ref q17)))
    (a18 : PySem.W.nsIn K mainGlobals f18.name = some (some (.ref q18)))
    (a19 : PySem.W.nsIn K mainGlobals f19.name = some (some (.ref q19)))
    (a20 : PySem.W.nsIn K mainGlobals f20.name = some (some (.ref q20)))
    (a21 : PySem.W.nsIn K mainGlobals f21.name = some (some (.ref q21)))
    (a22 : PySem.W.nsIn K mainGlobals f22.name = some (some (.ref q22)))
    (a23 : PySem.W.nsIn K mainGlobals f23.name = some (some (.ref q23)))
    (a24 : PySem.W.nsIn K mainGlobals f24.name = some (some (.ref q24)))
    (a25 : PySem.W.nsIn K mainGlobals f25.name = some (some (.ref q25)))
    (a26 : PySem.W.nsIn K mainGlobals f26.name = some (some (.ref q26)))
    (a27 : PySem.W.nsIn K mainGlobals f27.name = some (some (.ref q27)))
    (a28 : PySem.W.nsIn K mainGlobals f28.name = some (some (.ref q28)))
    (a29 : PySem.W.nsIn K mainGlobals f29.name = some (some (.ref q29)))
    (a30 : PySem.W.nsIn K mainGlobals f30.name = some (some (.ref q30)))
    (d0 : Dkl K f0.name f0.qual st0 q0 o0)
    (t0 : Tbk K o0 t0_)
    (u0 : h.get? t0_ = some { cls := .none, data := .fields #[] })
    (d1 : Dk K f1.name f1.qual st1 q1)
    (d2 : Dk K f2.name f2.qual st2 q2)
    (d3 : Dk K f3.name f3.qual st3 q3)
    (d4 : Dk K f4.name f4.qual st4 q4)
    (d5 : Dk K f5.name f5.qual st5 q5)
    (d6 : Dk K f6.name f6.qual st6 q6)
    (d7 : Dk K f7.name f7.qual st7 q7)
    (d8 : Dk K f8.name f8.qual st8 q8)
    (d9 : Dk K f9.name f9.qual st9 q9)
    (d10 : Dk K f10.name f10.qual st10 q10)
    (d11 : Dk K f11.name f11.qual st11 q11)
    (d12 : Dk K f12.name f12.qual st12 q12)
    (d13 : Dk K f13.name f13.qual st13 q13)
    (d14 : Dk K f14.name f14.qual st14 q14)
    (d15 : Dk K f15.name f15.qual st15 q15)
    (d16 : Dkl K f16.name f16.qual st16 q16 o16)
    (t16 : Tbk K o16 t16_)
    (u16 : h.get? t16_ = some { cls := .none, data := .fields #[] })
    (d17 : Dk K f17.name f17.qual st17 q17)
    (d18 : Dk K f18.name f18.qual st18 q18)
    (d19 : Dk K f19.name f19.qual st19 q19)
    (d20 : Dk K f20.name f20.qual st20 q20)
    (d21 : Dk K f21.name f21.qual st21 q21)
    (d22 : Dk K f22.name f22.qual st22 q22)
    (d23 : Dk K f23.name f23.qual st23 q23)
    (d24 : Dk K f24.name f24.qual st24 q24)
    (d25 : Dk K f25.name f25.qual st25 q25)
    (d26 : Dk K f26.name f26.qual st26 q26)
    (d27 : Dk K f27.name f27.qual st27 q27)
    (d28 : Dk K f28.name f28.qual st28 q28)
    (d29 : Dk K f29.name f29.qual st29 q29)
    (d30 : Dk K f30.name f30.qual st30 q30)
    (tdis : ([t0_, t16_] : List Addr).Nodup)
    (ae0 : PySem.W.nsIn K mainGlobals "TooMany" = some (some (.ref e0)))
    (ek0 : Ek1 K e0 i0)
    (ik0 : ∃ fd, Ik K PySem.Challenge.pw_whoevercomes_k29_pieces_laid_side_by_sid mg "__init__" "TooMany.__init__" se0 e0 i0 fd)
    (en0_what : PySem.W.findIn K (.ref e0) "what" = some none)
    (ae1 : PySem.W.nsIn K mainGlobals "BadPiece" = some (some (.ref e1)))
    (ek1 : Ek1 K e1 i1)
    (ik1 : ∃ fd, Ik K PySem.Challenge.pw_whoevercomes_k29_pieces_laid_side_by_sid mg "__init__" "BadPiece.__init__" se1 e1 i1 fd)
    (en1_place : PySem.W.findIn K (.ref e1) "place" = some none)
    (es0_0 : PySem.W.subIn K (.ref e0) (.ref e0) = some true)
    (es0_1 : PySem.W.subIn K (.ref e0) (.ref e1) = some false)
    (es1_0 : PySem.W.subIn K (.ref e1) (.ref e0) = some false)
    (es1_1 : PySem.W.subIn K (.ref e1) (.ref e1) = some true)
    (z_len : PySem.W.nsIn K mainGlobals "len" = some none)
    (z_sum : PySem.W.nsIn K mainGlobals "sum" = some none)
    (z_max : PySem.W.nsIn K mainGlobals "max" = some none)
    (z_min : PySem.W.nsIn K mainGlobals "min" = some none)
    (z_abs : PySem.W.nsIn K mainGlobals "abs" = some none)
    (z_int : PySem.W.nsIn K mainGlobals "int" = some none)
    (z_sorted : PySem.W.nsIn K mainGlobals "sorted" = some none)
    (z_list : PySem.W.nsIn K mainGlobals "list" = some none)
    (z_tuple : PySem.W.nsIn K mainGlobals "tuple" = some none)
    (z_any : PySem.W.nsIn K mainGlobals "any" = some none)
    (z_all : PySem.W.nsIn K mainGlobals "all" = some none)
    (z_isinstance : PySem.W.nsIn K mainGlobals "isinstance" = some none)
    (z_range : PySem.W.nsIn K mainGlobals "range" = some none)
    (z_bool : PySem.W.nsIn K mainGlobals "bool" = some none)
    (z_str : PySem.W.nsIn K mainGlobals "str" = some none)
    : ∃ (fd : FuncData) (Z : Gz), Z.P = P ∧ Z.wf = wf ∧ Z.K = K ∧ TabF Z h ∧ (∀ (s : Shared) (v : Value), BindsTo s fd ⟨[v], []⟩ [("script", v)]) ∧ ∀ base : Heap, K.In base → base.Ns mainGlobals mg → (∀ p ∈ Z.cds, LamX.TabB base mg p.1 p.2) → FnOk PySem.Challenge.pw_whoevercomes_k29_pieces_laid_side_by_sid w K mg base (L2.CX PySem.Challenge.pw_whoevercomes_k29_pieces_laid_side_by_sid w) (2 * n + 1) fa fd ["script"] (spR Z n 30) := by
  have e := hfa.symm.trans (PySem.W.mg_of X G a30)
  cases e
  have hL := d30
  obtain ⟨fdL, FL⟩ := hL
  obtain ⟨oc, od, kV, doc, pm, an, cdv, ct, osl, rfl, lk, hcd⟩ := id FL.ex
  let Z : Gz := ZZ K wf [q0, q1, q2, q3, q4, q5, q6, q7, q8, q9, q10, q11, q12, q13, q14, q15, q16, q17, q18, q19, q20, q21, q22, q23, q24, q25, q26, q27, q28, q29, fa] [] [e0, e1] [(t0_, f0.qual ++ ".<locals>." ++ "<lambda>"), (t16_, f16.qual ++ ".<locals>." ++ "<lambda>")] [(o0, t0_), (o16, t16_)]
  refine ⟨PySem.W.fnOf f30.name f30.qual (defArgs st30) (defBody st30) (defScope st30) .none kV doc pm an cdv ct, Z, rfl, rfl, rfl, ?_, fun s v => .of_eq rfl, fun base _ _ ht => ?_⟩
  · exact tabF_of (ks := [(o0, t0_, f0.qual ++ ".<locals>." ++ "<lambda>"), (o16, t16_, f16.qual ++ ".<locals>." ++ "<lambda>")]) rfl rfl ⟨u0, u16, trivial⟩ ⟨t0, t16, trivial⟩
  have D : DefAll Z mg 0 Z.P.fns := ⟨df0 (Z := Z) rfl rfl d0 (PySem.W.mg_of X G a0) (by simp [Z, ZZ]) (by simp [Z, ZZ]) (tab_uniq (ks := [(o0, t0_, f0.qual ++ ".<locals>." ++ "<lambda>"), (o16, t16_, f16.qual ++ ".<locals>." ++ "<lambda>")]) rfl tdis 0 rfl), df1 (Z := Z) rfl rfl d1 (PySem.W.mg_of X G a1), df2 (Z := Z) rfl rfl d2 (PySem.W.mg_of X G a2), df3 (Z := Z) rfl rfl d3 (PySem.W.mg_of X G a3), df4 (Z := Z) rfl rfl d4 (PySem.W.mg_of X G a4), df5 (Z := Z) rfl rfl d5 (PySem.W.mg_of X G a5), df6 (Z := Z) rfl rfl d6 (PySem.W.mg_of X G a6), df7 (Z := Z) rfl rfl d7 (PySem.W.mg_of X G a7), df8 (Z := Z) rfl rfl d8 (PySem.W.mg_of X G a8), df9 (Z := Z) rfl rfl d9 (PySem.W.mg_of X G a9), df10 (Z := Z) rfl rfl d10 (PySem.W.mg_of X G a10), df11 (Z := Z) rfl rfl d11 (PySem.W.mg_of X G a11), df12 (Z := Z) rfl rfl d12 (PySem.W.mg_of X G a12), df13 (Z := Z) rfl rfl d13 (PySem.W.mg_of X G a13), df14 (Z := Z) rfl rfl d14 (PySem.W.mg_of X G a14), df15 (Z := Z) rfl rfl d15 (PySem.W.mg_of X G a15), df16 (Z := Z) rfl rfl d16 (PySem.W.mg_of X G a16) (by simp [Z, ZZ]) (by simp [Z, ZZ]) (tab_uniq (ks := [(o0, t0_, f0.qual ++ ".<locals>." ++ "<lambda>"), (o16, t16_, f16.qual ++ ".<locals>." ++ "<lambda>")]) rfl tdis 1 rfl), df17 (Z := Z) rfl rfl d17 (PySem.W.mg_of X G a17), df18 (Z := Z) rfl rfl d18 (PySem.W.mg_of X G a18), df19 (Z := Z) rfl rfl d19 (PySem.W.mg_of X G a19), df20 (Z := Z) rfl rfl d20 (PySem.W.mg_of X G a20), df21 (Z := Z) rfl rfl d21 (PySem.W.mg_of X G a21), df22 (Z := Z) rfl rfl d22 (PySem.W.mg_of X G a22), df23 (Z := Z) rfl rfl d23 (PySem.W.mg_of X G a23), df24 (Z := Z) rfl rfl d24 (PySem.W.mg_of X G a24), df25 (Z := Z) rfl rfl d25 (PySem.W.mg_of X G a25), df26 (Z := Z) rfl rfl d26 (PySem.W.mg_of X G a26), df27 (Z := Z) rfl rfl d27 (PySem.W.mg_of X G a27), df28 (Z := Z) rfl rfl d28 (PySem.W.mg_of X G a28), df29 (Z := Z) rfl rfl d29 (PySem.W.mg_of X G a29), df30 (Z := Z) rfl rfl d30 (PySem.W.mg_of X G a30), trivial⟩
  have C : ClsAll Z mg 0 Z.P.cls := trivial
  have E0 : ErrF Z PySem.Challenge.pw_whoevercomes_k29_pieces_laid_side_by_sid mg 0 (Z.P.ers.getD 0 ⟨Str.empty, [], []⟩) := by
    obtain ⟨fd, I⟩ := ik0
    refine ⟨⟨i0, "__init__", "TooMany.__init__", se0, ["self", "what"], ["what"], fd, I, ek0, by decide +kernel, rfl, rfl, by simp, ?_, ?_⟩, (show ∀ f ∈ ([1] : List Nat), f < 2 by decide), (show (1 : Nat) ≤ 900 by decide), PySem.W.mg_of X G ae0⟩
    · intro f hf
      simp only [List.mem_cons, List.mem_nil_iff, or_false] at hf
      rcases hf with rfl
      · exact en0_what
    · obtain ⟨kV, doc, pm, ct, an, cda, cc, rfl, _⟩ := I
      exact .all fun us hl => match us, hl with | [_, _], _ => rfl
  have E1 : ErrF Z PySem.Challenge.pw_whoevercomes_k29_pieces_laid_side_by_sid mg 1 (Z.P.ers.getD 1 ⟨Str.empty, [], []⟩) := by
    obtain ⟨fd, I⟩ := ik1
    refine ⟨⟨i1, "__init__", "BadPiece.__init__", se1, ["self", "place"], ["place"], fd, I, ek1, by decide +kernel, rfl, rfl, by simp, ?_, ?_⟩, (show ∀ f ∈ ([0] : List Nat), f < 2 by decide), (show (1 : Nat) ≤ 900 by decide), PySem.W.mg_of X G ae1⟩
    · intro f hf
      simp only [List.mem_cons, List.mem_nil_iff, or_false] at hf
      rcases hf with rfl
      · exact en1_place
    · obtain ⟨kV, doc, pm, ct, an, cda, cc, rfl, _⟩ := I
      exact .all fun us hl => match us, hl with | [_, _], _ => rfl
  have E : ErrAll Z PySem.Challenge.pw_whoevercomes_k29_pieces_laid_side_by_sid mg 0 Z.P.ers := ⟨E0, E1, trivial⟩
  have hb : ∀ x ∈ blts, mg x = none := by
    intro x hx
    simp only [blts, List.mem_cons, List.mem_nil_iff, or_false] at hx
    rcases hx with rfl | rfl | rfl | rfl | rfl | rfl | rfl | rfl | rfl | rfl | rfl | rfl | rfl | rfl | rfl
    · exact PySem.W.mg_none_of X G z_len
    · exact PySem.W.mg_none_of X G z_sum
    · exact PySem.W.mg_none_of X G z_max
    · exact PySem.W.mg_none_of X G z_min
    · exact PySem.W.mg_none_of X G z_abs
    · exact PySem.W.mg_none_of X G z_int
    · exact PySem.W.mg_none_of X G z_sorted
    · exact PySem.W.mg_none_of X G z_list
    · exact PySem.W.mg_none_of X G z_tuple
    · exact PySem.W.mg_none_of X G z_any
    · exact PySem.W.mg_none_of X G z_all
    · exact PySem.W.mg_none_of X G z_isinstance
    · exact PySem.W.mg_none_of X G z_range
    · exact PySem.W.mg_none_of X G z_bool
    · exact PySem.W.mg_none_of X G z_str
  have hs : ∀ c e k e2, Z.P.ers[c]? = some e → Z.P.ers[k]? = some e2 → PySem.W.subIn Z.K (.ref (Z.ec c)) (.ref (Z.ec k)) = some (e.ups.contains k) := by
    intro c e k e2 h1 h2
    have l1 : c < 2 := (List.getElem?_eq_some_iff.mp h1).1
    have l2 : k < 2 := (List.getElem?_eq_some_iff.mp h2).1
    match c, k, l1, l2, h1 with
    | 0, 0, _, _, h1 => cases h1; exact es0_0
    | 0, 1, _, _, h1 => cases h1; exact es0_1
    | 1, 0, _, _, h1 => cases h1; exact es1_0
    | 1, 1, _, _, h1 => cases h1; exact es1_1
  have T : TxtG Z PySem.Challenge.pw_whoevercomes_k29_pieces_laid_side_by_sid w mg base := txt_of D C E hb hs (show P.nms.Nodup by decide +kernel) ht
  have D0 : DefG Z mg 30 f30 st30 _ := ⟨FL, sc30, by decide, ck30, FL.binds (ps := f30.names.take f30.np) fun _ _ _ _ _ _ us hl => match us, hl with | [_], _ => rfl, fun _ => hfa, fun h => by cases h⟩
  exact fn_all T n 30 f30 st30 _ rfl D0
end K29T

/-! GRun -/
set_option maxRecDepth 100000
set_option maxHeartbeats 4000000
namespace G
abbrev hk {α : Sort u} (_ : α) : Unit := ()
class Hold (a : Unit) : Type where
instance (a : Unit) : Hold a := {}
def Res.zbind {α β : Type} (r : Res α) (f : α → Store → Res β) [Hold (hk f)] : Res β := r.bind f
@[simp] theorem zbind_ok {α β : Type} {a : α} {M : Store} {f : α → Store → Res β} [Hold (hk f)] : (Res.ok a M).zbind f = f a M := id rfl
@[simp] theorem zbind_err {α β : Type} {c : Nat} {fs : List D} {M : Store} {f : α → Store → Res β} [Hold (hk f)] : (Res.err c fs M : Res α).zbind f = .err c fs M := id rfl
@[simp] theorem zbind_stuck {α β : Type} {f : α → Store → Res β} [Hold (hk f)] : (Res.stuck : Res α).zbind f = .stuck := id rfl
def zwith {α : Type} (r : Res α) (ρ : Rho) (f : α → Store → Out) [Hold (hk f)] : Out := withE r ρ f
@[simp] theorem zwith_ok {α : Type} {a : α} {M : Store} {ρ : Rho} {f : α → Store → Out} [Hold (hk f)] : zwith (.ok a M) ρ f = f a M := id rfl
@[simp] theorem zwith_err {α : Type} {c : Nat} {fs : List D} {M : Store} {ρ : Rho} {f : α → Store → Out} [Hold (hk f)] : zwith (.err c fs M : Res α) ρ f = some (.er c fs ρ, M) := id rfl
@[simp] theorem zwith_stuck {α : Type} {ρ : Rho} {f : α → Store → Out} [Hold (hk f)] : zwith (.stuck : Res α) ρ f = none := id rfl
def zthen (o : Out) (f : Rho → Store → Out) [Hold (hk f)] : Out := andThen o f
@[simp] theorem zthen_nx {ρ : Rho} {M : Store} {f : Rho → Store → Out} [Hold (hk f)] : zthen (some (.nx ρ, M)) f = f ρ M := id rfl
@[simp] theorem zthen_rt {d : D} {M : Store} {f : Rho → Store → Out} [Hold (hk f)] : zthen (some (.rt d, M)) f = some (.rt d, M) := id rfl
@[simp] theorem zthen_bk {ρ : Rho} {M : Store} {f : Rho → Store → Out} [Hold (hk f)] : zthen (some (.bk ρ, M)) f = some (.bk ρ, M) := id rfl
@[simp] theorem zthen_ct {ρ : Rho} {M : Store} {f : Rho → Store → Out} [Hold (hk f)] : zthen (some (.ct ρ, M)) f = some (.ct ρ, M) := id rfl
@[simp] theorem zthen_er {c : Nat} {fs : List D} {ρ : Rho} {M : Store} {f : Rho → Store → Out} [Hold (hk f)] : zthen (some (.er c fs ρ, M)) f = some (.er c fs ρ, M) := id rfl
@[simp] theorem zthen_none {f : Rho → Store → Out} [Hold (hk f)] : zthen none f = none := id rfl
section
variable {α : Type}
def onB (x : D) (k : Bool → Res α) [Hold (hk k)] : Res α := match x with | .bl b => k b | _ => .stuck
def onI (x : D) (k : Int → Res α) [Hold (hk k)] : Res α := match x with | .int b => k b | _ => .stuck
def onO {β : Type} (x : Option β) (k : β → Res α) [Hold (hk k)] : Res α := match x with | some b => k b | none => .stuck
def onV (x : Option (Option D)) (k : D → Res α) [Hold (hk k)] : Res α := match x with | some (some d) => k d | _ => .stuck
def onL (x : Option Ob) (k : List D → Res α) [Hold (hk k)] : Res α := match x with | some (.lst xs) => k xs | _ => .stuck
def onN (x : Option Ob) (k : Nat → List (Nat × D) → Res α) [Hold (hk k)] : Res α := match x with | some (.ins c fs) => k c fs | _ => .stuck
def onP (x : D) (k : Nat → Res α) [Hold (hk k)] : Res α := match x with | .ptr n => k n | _ => .stuck
@[simp] theorem onB_bl {b : Bool} {k : Bool → Res α} : onB (.bl b) k = k b := id rfl
@[simp] theorem onI_int {b : Int} {k : Int → Res α} : onI (.int b) k = k b := id rfl
@[simp] theorem onO_some {β : Type} {b : β} {k : β → Res α} : onO (some b) k = k b := id rfl
@[simp] theorem onV_some {b : D} {k : D → Res α} : onV (some (some b)) k = k b := id rfl
@[simp] theorem onL_lst {b : List D} {k : List D → Res α} : onL (some (.lst b)) k = k b := id rfl
@[simp] theorem onN_ins {c : Nat} {fs : List (Nat × D)} {k : Nat → List (Nat × D) → Res α} : onN (some (.ins c fs)) k = k c fs := id rfl
@[simp] theorem onP_ptr {b : Nat} {k : Nat → Res α} : onP (.ptr b) k = k b := id rfl
end
def oI (x : D) (k : Int → Out) [Hold (hk k)] : Out := match x with | .int b => k b | _ => none
def oO {β : Type} (x : Option β) (k : β → Out) [Hold (hk k)] : Out := match x with | some b => k b | none => none
def oL (x : Option Ob) (k : List D → Out) [Hold (hk k)] : Out := match x with | some (.lst xs) => k xs | _ => none
def oN (x : Option Ob) (k : Nat → List (Nat × D) → Out) [Hold (hk k)] : Out := match x with | some (.ins c fs) => k c fs | _ => none
def oP (x : D) (k : Nat → Out) [Hold (hk k)] : Out := match x with | .ptr n => k n | _ => none
def oD (x : Option (Option D)) (k : D → Out) [Hold (hk k)] : Out := match x with | some (some d) => k d | _ => none
@[simp] theorem oI_int {b : Int} {k : Int → Out} : oI (.int b) k = k b := id rfl
@[simp] theorem oO_some {β : Type} {b : β} {k : β → Out} : oO (some b) k = k b := id rfl
@[simp] theorem oL_lst {b : List D} {k : List D → Out} : oL (some (.lst b)) k = k b := id rfl
@[simp] theorem oN_ins {c : Nat} {fs : List (Nat × D)} {k : Nat → List (Nat × D) → Out} : oN (some (.ins c fs)) k = k c fs := id rfl
@[simp] theorem oP_ptr {b : Nat} {k : Nat → Out} : oP (.ptr b) k = k b := id rfl
@[simp] theorem oD_some {b : D} {k : D → Out} : oD (some (some b)) k = k b := id rfl
section
variable {P : Pg} {w : Nat} {cf : Nat → List D → Store → Res D} {ρ : Rho} {M : Store}
@[simp] theorem rE_non : runE P w cf ρ .non M = .ok .non M := id rfl
@[simp] theorem rE_bl {b : Bool} : runE P w cf ρ (.bl b) M = .ok (.bl b) M := id rfl
@[simp] theorem rE_int {i : Int} : runE P w cf ρ (.int i) M = .ok (.int i) M := id rfl
@[simp] theorem rE_str {x : PySem.Str} : runE P w cf ρ (.str x) M = .ok (.str x) M := id rfl
@[simp] theorem rE_v {i : Nat} : runE P w cf ρ (.v i) M = onV ρ[i]? fun d => .ok d M := by
  show (match ρ[i]? with | some (some d) => Res.ok d M | _ => .stuck) = _
  cases ρ[i]? with
  | none => rfl
  | some o => cases o <;> rfl
@[simp] theorem rE_bin {o : Bop} {a b : Xp} : runE P w cf ρ (.bin o a b) M = (runE P w cf ρ a M).zbind fun x M1 => (runE P w cf ρ b M1).zbind fun y M2 => binop o x y M2 := id rfl
@[simp] theorem rE_neg {a : Xp} : runE P w cf ρ (.neg a) M = (runE P w cf ρ a M).zbind fun x M1 => onI x fun i => .ok (.int (-i)) M1 := by
  show (runE P w cf ρ a M).bind _ = (runE P w cf ρ a M).bind _
  first | rfl | (congr 1; funext x M1; cases x <;> rfl)
@[simp] theorem rE_notV {a : Xp} : runE P w cf ρ (.notV a) M = (runE P w cf ρ a M).zbind fun x M1 => onB x fun b => .ok (.bl (!b)) M1 := by
  show (runE P w cf ρ a M).bind _ = (runE P w cf ρ a M).bind _
  first | rfl | (congr 1; funext x M1; cases x <;> rfl)
@[simp] theorem rE_cmp {o : Cop} {a b : Xp} : runE P w cf ρ (.cmp o a b) M = (runE P w cf ρ a M).zbind fun x M1 => (runE P w cf ρ b M1).zbind fun y M2 => cmpop o x y M2 := id rfl
@[simp] theorem rE_and {as : Xps} : runE P w cf ρ (.andV as) M = runAnd P w cf ρ as M := id rfl
@[simp] theorem rE_or {as : Xps} : runE P w cf ρ (.orV as) M = runOr P w cf ρ as M := id rfl
@[simp] theorem rE_ife {t : Tp} {a b : Xp} : runE P w cf ρ (.ife t a b) M = (runT P w cf ρ t M).zbind fun k M1 => if k = true then runE P w cf ρ a M1 else runE P w cf ρ b M1 := by
  show (runT P w cf ρ t M).bind _ = (runT P w cf ρ t M).bind _
  first | rfl | (congr 1; funext k M1; cases k <;> rfl)
@[simp] theorem rE_call {f : Nat} {as : Xps} : runE P w cf ρ (.call f as) M = (runA P w cf ρ as M).zbind fun xs M1 => cf f xs M1 := id rfl
@[simp] theorem rE_mk {c : Nat} {as : Xps} : runE P w cf ρ (.mk c as) M = (runA P w cf ρ as M).zbind fun xs M1 => onO P.cls[c]? fun k => (cf k.init (.ptr M1.length :: xs) (M1 ++ [.ins c []])).zbind fun r M2 => if r matches .non then .ok (.ptr M1.length) M2 else .stuck := by
  show (runA P w cf ρ as M).bind _ = (runA P w cf ρ as M).bind _
  congr 1; funext x M1
  cases P.cls[c]? with
  | none => rfl
  | some k =>
    show (cf k.init (.ptr M1.length :: x) (M1 ++ [.ins c []])).bind _ = (cf k.init (.ptr M1.length :: x) (M1 ++ [.ins c []])).bind _
    congr 1; funext r M2
    cases r <;> rfl
@[simp] theorem rE_meth {o : Xp} {m : Nat} {as : Xps} : runE P w cf ρ (.meth o m as) M = (runE P w cf ρ o M).zbind fun x M1 => onP x fun n => onN M1[n]? fun c fs => onO ((P.cls[c]?).bind fun k => findM m k.meths) fun g =>
    if getF m fs = none then (runA P w cf ρ as M1).zbind fun xs M2 => cf g (.ptr n :: xs) M2 else .stuck := by
  show (runE P w cf ρ o M).bind _ = (runE P w cf ρ o M).bind _
  congr 1; funext x M1
  cases x with
  | ptr n =>
    simp only [onP_ptr]
    cases h : M1[n]? with
    | none => rfl
    | some ob =>
      cases ob with
      | ins c fs =>
        simp only [onN_ins]
        cases h2 : (P.cls[c]?).bind fun k => findM m k.meths with
        | none => rfl
        | some g =>
          simp only [onO_some]
          cases h3 : getF m fs <;> rfl
      | _ => rfl
  | _ => rfl
@[simp] theorem rE_bi {f : Bi} {as : Xps} : runE P w cf ρ (.bi f as) M = (runA P w cf ρ as M).zbind fun xs M1 => birun f xs M1 := id rfl
@[simp] theorem rE_bm {f : Bm} {o : Xp} {as : Xps} : runE P w cf ρ (.bm f o as) M = (runE P w cf ρ o M).zbind fun x M1 => if (listOf M1 x).isSome = true then (runA P w cf ρ as M1).zbind fun xs M2 => bmrun f x xs M2 else .stuck := by
  show (runE P w cf ρ o M).bind _ = (runE P w cf ρ o M).bind _
  first | rfl | (congr 1; funext x M1; cases (listOf M1 x).isSome <;> rfl)
@[simp] theorem rE_isi {a : Xp} {t : Ty} : runE P w cf ρ (.isi a t) M = (runE P w cf ρ a M).zbind fun x M1 => onO (isTy M1 t x) fun b => .ok (.bl b) M1 := by
  show (runE P w cf ρ a M).bind _ = (runE P w cf ρ a M).bind _
  first | rfl | (congr 1; funext x M1; cases isTy M1 t x <;> rfl)
@[simp] theorem rE_fld {o : Xp} {f : Nat} : runE P w cf ρ (.fld o f) M = (runE P w cf ρ o M).zbind fun x M1 => onP x fun n => onN M1[n]? fun c fs => if hasF P c f = true then onO (getF f fs) fun v => .ok v M1 else .stuck := by
  show (runE P w cf ρ o M).bind _ = (runE P w cf ρ o M).bind _
  congr 1; funext x M1
  cases x with
  | ptr n =>
    simp only [onP_ptr]
    cases h : M1[n]? with
    | none => rfl
    | some ob =>
      cases ob with
      | ins c fs =>
        simp only [onN_ins]
        cases h2 : hasF P c f
        · rfl
        · cases h3 : getF f fs <;> rfl
      | _ => rfl
  | _ => rfl
@[simp] theorem rE_ix {o i : Xp} : runE P w cf ρ (.ix o i) M = (runE P w cf ρ o M).zbind fun x M1 => (runE P w cf ρ i M1).zbind fun y M2 => ixd M2 x y := id rfl
@[simp] theorem rE_sl {o : Xp} {lo hi : Op} : runE P w cf ρ (.sl o lo hi) M = (runE P w cf ρ o M).zbind fun x M1 => (runO P w cf ρ lo M1).zbind fun l M2 => (runO P w cf ρ hi M2).zbind fun h M3 => sld M3 x l h := id rfl
@[simp] theorem rE_tup {as : Xps} : runE P w cf ρ (.tup as) M = (runA P w cf ρ as M).zbind fun xs M1 => if xs.length ≤ big then .ok (.tup xs) M1 else .stuck := id rfl
@[simp] theorem rE_lst {hot : Bool} {as : Xps} : runE P w cf ρ (.lst hot as) M = (runA P w cf ρ as M).zbind fun xs M1 => if xs.length ≤ big then newL hot xs M1 else .stuck := id rfl
/-- a comprehension's turn -/
def lcT (P : Pg) (w : Nat) (cf : Nat → List D → Store → Res D) (ρ : Rho) (g : Gp) (t : Tps) (e : Xp) : D → Store → Res (Option D) := fun x M => onO (bindG g x (wipeR ρ (gslots g))) fun ρ' =>
    ((runTs P w cf ρ' t M).noerr).zbind fun b M2 => if b = true then ((runE P w cf ρ' e M2).noerr).zbind fun y M3 => .ok (some y) M3 else .ok none M2
def lcW (f : D → Store → Res (Option D)) (w : Nat) (k : Wk) (M : Store) : Res (List D) := match k with
  | .items xs => lcA f xs [] M
  | .hot n => lcH n f w 0 [] M
@[simp] theorem lcW_items {f : D → Store → Res (Option D)} {xs : List D} : lcW f w (.items xs) M = lcA f xs [] M := id rfl
@[simp] theorem lcW_hot {f : D → Store → Res (Option D)} {n : Nat} : lcW f w (.hot n) M = lcH n f w 0 [] M := id rfl
@[simp] theorem rE_lc {hot : Bool} {g : Gp} {it : Ip} {t : Tps} {e : Xp} : runE P w cf ρ (.lc hot g it t e) M = (runI P w cf ρ it M).zbind fun k M1 => (lcW (lcT P w cf ρ g t e) w k M1).zbind fun ys M2 => newL hot ys M2 := by
  have hf : (fun x M => match bindG g x (wipeR ρ (gslots g)) with
      | some ρ' => ((runTs P w cf ρ' t M).noerr).bind fun b M2 => match b with
        | true => ((runE P w cf ρ' e M2).noerr).bind fun y M3 => Res.ok (some y) M3
        | false => .ok none M2
      | none => .stuck) = lcT P w cf ρ g t e := by
    funext x M
    unfold lcT
    cases bindG g x (wipeR ρ (gslots g)) with
    | none => rfl
    | some ρ' =>
      simp only [onO_some]
      show Res.bind _ _ = Res.bind _ _
      first | rfl | (congr 1; funext b M2; cases b <;> rfl)
  show (runI P w cf ρ it M).bind _ = (runI P w cf ρ it M).bind _
  congr 1; funext k M1
  rw [← hf]
  cases k <;> rfl
def frzD (x : D) (M : Store) : Res D := match x with
  | .ptr n => onL M[n]? fun xs => .ok (.lst xs) (M.set n .dead)
  | d => .ok d M
@[simp] theorem frz_ptr {n : Nat} : frzD (.ptr n) M = onL M[n]? fun xs => .ok (.lst xs) (M.set n .dead) := id rfl
@[simp] theorem frz_lst {xs : List D} : frzD (.lst xs) M = .ok (.lst xs) M := id rfl
@[simp] theorem rE_frz {e : Xp} : runE P w cf ρ (.frz e) M = (runE P w cf ρ e M).zbind fun x M1 => frzD x M1 := by
  show (runE P w cf ρ e M).bind _ = (runE P w cf ρ e M).bind _
  refine congrArg _ (funext fun x => funext fun M1 => ?_)
  cases x with
  | ptr n =>
    show (match M1[n]? with | some (.lst xs) => Res.ok (D.lst xs) (M1.set n .dead) | _ => .stuck) = onL M1[n]? _
    cases h : M1[n]? with
    | none => rfl
    | some ob => cases ob <;> rfl
  | _ => rfl
def lrgI (hot : Bool) (i : Int) (M : Store) : Res D := if -16777216 ≤ i ∧ i ≤ 16777216 then newL hot (rngOf 0 i) M else .stuck
theorem lrgI_nat {hot : Bool} {k : Nat} (h : k ≤ 16777216) : lrgI hot (k : Int) M = newL hot ((List.range k).map fun (i : Nat) => D.int (i : Int)) M := by
  have e : rngOf 0 (k : Int) = (List.range k).map fun (i : Nat) => D.int (i : Int) := by
    unfold rngOf
    simp
  unfold lrgI
  rw [if_pos (by omega), e]
@[simp] theorem rE_lrg {hot : Bool} {a : Xp} : runE P w cf ρ (.lrg hot a) M = (runE P w cf ρ a M).zbind fun x M1 => onI x fun i => lrgI hot i M1 := by
  show (runE P w cf ρ a M).bind _ = (runE P w cf ρ a M).bind _
  refine congrArg _ (funext fun x => funext fun M1 => ?_)
  cases x <;> rfl
def lrgIJ (hot : Bool) (i j : Int) (M : Store) : Res D := if rngOk i j ∧ j - i ≤ 16777216 then newL hot (rngOf i j) M else .stuck
@[simp] theorem rE_lrg2 {hot : Bool} {a b : Xp} : runE P w cf ρ (.lrg2 hot a b) M = (runE P w cf ρ a M).zbind fun x M1 => (runE P w cf ρ b M1).zbind fun y M2 => onI x fun i => onI y fun j => lrgIJ hot i j M2 := by
  show (runE P w cf ρ a M).bind _ = (runE P w cf ρ a M).bind _
  refine congrArg _ (funext fun x => funext fun M1 => ?_)
  show (runE P w cf ρ b M1).bind _ = (runE P w cf ρ b M1).bind _
  refine congrArg _ (funext fun y => funext fun M2 => ?_)
  cases x <;> cases y <;> rfl
def trgI (i : Int) (M : Store) : Res D := if -16777216 ≤ i ∧ i ≤ 16777216 then .ok (.tup (rngOf 0 i)) M else .stuck
@[simp] theorem rE_trg {a : Xp} : runE P w cf ρ (.trg a) M = (runE P w cf ρ a M).zbind fun x M1 => onI x fun i => trgI i M1 := by
  show (runE P w cf ρ a M).bind _ = (runE P w cf ρ a M).bind _
  refine congrArg _ (funext fun x => funext fun M1 => ?_)
  cases x <;> rfl
@[simp] theorem rE_dnew {tk : Bool} : runE P w cf ρ (.dnew tk) M = .ok (.ptr M.length) (M ++ [.dic tk []]) := id rfl
def srtK (o : Option (List (List Int))) (M : Store) : Res D := match o with
  | some ps => .ok (.lst ((sortT ps).map tupD)) M
  | none => .stuck
@[simp] theorem srtK_some {ps : List (List Int)} : srtK (some ps) M = .ok (.lst ((sortT ps).map tupD)) M := id rfl
@[simp] theorem rE_srtk {e : Xp} : runE P w cf ρ (.srtk e) M = (runE P w cf ρ e M).zbind fun x M1 => srtK ((listOf M1 x).bind tupsOf) M1 := id rfl
@[simp] theorem rE_isB {b : Bool} {e : Xp} : runE P w cf ρ (.isB b e) M = (runE P w cf ρ e M).zbind fun x M1 => onB x fun c => .ok (.bl (c == b)) M1 := by
  show (runE P w cf ρ e M).bind _ = (runE P w cf ρ e M).bind _
  first | rfl | (congr 1; funext x M1; cases x <;> rfl)
@[simp] theorem rA_nil : runA P w cf ρ .nil M = .ok [] M := id rfl
@[simp] theorem rA_cons {e : Xp} {r : Xps} : runA P w cf ρ (.cons e r) M = (runE P w cf ρ e M).zbind fun x M1 => (runA P w cf ρ r M1).zbind fun xs M2 => .ok (x :: xs) M2 := id rfl
@[simp] theorem rO_no : runO P w cf ρ .no M = .ok none M := id rfl
@[simp] theorem rO_so {e : Xp} : runO P w cf ρ (.so e) M = (runE P w cf ρ e M).zbind fun x M1 => onI x fun i => .ok (some i) M1 := by
  show (runE P w cf ρ e M).bind _ = (runE P w cf ρ e M).bind _
  first | rfl | (congr 1; funext x M1; cases x <;> rfl)
@[simp] theorem rAnd_1 {e : Xp} : runAnd P w cf ρ (.cons e .nil) M = runE P w cf ρ e M := id rfl
@[simp] theorem rAnd_2 {e e2 : Xp} {r : Xps} : runAnd P w cf ρ (.cons e (.cons e2 r)) M = (runE P w cf ρ e M).zbind fun x M1 => onB x fun b => if b = true then runAnd P w cf ρ (.cons e2 r) M1 else .ok (.bl false) M1 := by
  show (runE P w cf ρ e M).bind _ = (runE P w cf ρ e M).bind _
  congr 1; funext x M1
  cases x with
  | bl b => cases b <;> rfl
  | _ => rfl
@[simp] theorem rOr_1 {e : Xp} : runOr P w cf ρ (.cons e .nil) M = runE P w cf ρ e M := id rfl
@[simp] theorem rOr_2 {e e2 : Xp} {r : Xps} : runOr P w cf ρ (.cons e (.cons e2 r)) M = (runE P w cf ρ e M).zbind fun x M1 => onB x fun b => if b = true then .ok (.bl true) M1 else runOr P w cf ρ (.cons e2 r) M1 := by
  show (runE P w cf ρ e M).bind _ = (runE P w cf ρ e M).bind _
  congr 1; funext x M1
  cases x with
  | bl b => cases b <;> rfl
  | _ => rfl
@[simp] theorem rT_val {e : Xp} : runT P w cf ρ (.val e) M = (runE P w cf ρ e M).zbind fun x M1 => onO (truth M1 x) fun b => .ok b M1 := by
  show (runE P w cf ρ e M).bind _ = (runE P w cf ρ e M).bind _
  first | rfl | (congr 1; funext x M1; cases truth M1 x <;> rfl)
@[simp] theorem rT_cmp {o : Cop} {a b : Xp} : runT P w cf ρ (.cmp o a b) M = (runE P w cf ρ a M).zbind fun x M1 => (runE P w cf ρ b M1).zbind fun y M2 => (cmpop o x y M2).zbind fun z M3 => onB z fun k => .ok k M3 := by
  show (runE P w cf ρ a M).bind _ = (runE P w cf ρ a M).bind _
  first | rfl | (congr 1; funext x M1; congr 1; funext y M2; congr 1; funext z M3; cases z <;> rfl)
@[simp] theorem rT_not {t : Tp} : runT P w cf ρ (.tnot t) M = (runT P w cf ρ t M).zbind fun k M1 => .ok (!k) M1 := id rfl
@[simp] theorem rT_and {t : Tps} : runT P w cf ρ (.tand t) M = runTs P w cf ρ t M := id rfl
@[simp] theorem rT_or {t : Tps} : runT P w cf ρ (.tor t) M = runTo P w cf ρ t M := id rfl
@[simp] theorem rTs_0 : runTs P w cf ρ .nil M = .ok true M := id rfl
@[simp] theorem rTs_1 {t : Tp} : runTs P w cf ρ (.cons t .nil) M = runT P w cf ρ t M := id rfl
@[simp] theorem rTs_2 {t t2 : Tp} {r : Tps} : runTs P w cf ρ (.cons t (.cons t2 r)) M = (runT P w cf ρ t M).zbind fun k M1 => if k = true then runTs P w cf ρ (.cons t2 r) M1 else .ok false M1 := by
  show (runT P w cf ρ t M).bind _ = (runT P w cf ρ t M).bind _
  first | rfl | (congr 1; funext k M1; cases k <;> rfl)
@[simp] theorem rTo_1 {t : Tp} : runTo P w cf ρ (.cons t .nil) M = runT P w cf ρ t M := id rfl
@[simp] theorem rTo_2 {t t2 : Tp} {r : Tps} : runTo P w cf ρ (.cons t (.cons t2 r)) M = (runT P w cf ρ t M).zbind fun k M1 => if k = true then .ok true M1 else runTo P w cf ρ (.cons t2 r) M1 := by
  show (runT P w cf ρ t M).bind _ = (runT P w cf ρ t M).bind _
  first | rfl | (congr 1; funext k M1; cases k <;> rfl)
@[simp] theorem rI_val {e : Xp} : runI P w cf ρ (.val e) M = (runE P w cf ρ e M).zbind fun x M1 => onO (walkOf M1 x) fun k => .ok k M1 := by
  show (runE P w cf ρ e M).bind _ = (runE P w cf ρ e M).bind _
  first | rfl | (congr 1; funext x M1; cases walkOf M1 x <;> rfl)
def rngI (i : Int) (M : Store) : Res Wk := if rngOk 0 i then .ok (.items (rngOf 0 i)) M else .stuck
@[simp] theorem rI_rng1 {a : Xp} : runI P w cf ρ (.rng1 a) M = (runE P w cf ρ a M).zbind fun x M1 => onI x fun i => rngI i M1 := by
  show (runE P w cf ρ a M).bind _ = (runE P w cf ρ a M).bind _
  refine congrArg _ (funext fun x => funext fun M1 => ?_)
  cases x <;> rfl
theorem rngI_nat {k : Nat} (h : k ≤ 16777216) : rngI (k : Int) M = .ok (.items ((List.range k).map fun (i : Nat) => D.int (i : Int))) M := by
  have hr : rngOk 0 (k : Int) = true := by
    simp only [rngOk, Bool.and_eq_true, decide_eq_true_eq]
    omega
  have e : rngOf 0 (k : Int) = (List.range k).map fun (i : Nat) => D.int (i : Int) := by
    unfold rngOf
    simp
  unfold rngI
  rw [if_pos hr, e]
@[simp] theorem rSs_nil : runSs P w cf .nil ρ M = some (.nx ρ, M) := id rfl
@[simp] theorem rSs_cons {s : Sm} {r : Sms} : runSs P w cf (.cons s r) ρ M = zthen (runS P w cf s ρ M) fun ρ' M' => runSs P w cf r ρ' M' := id rfl
@[simp] theorem rS_asg {i : Nat} {e : Xp} : runS P w cf (.asg (.n i) e) ρ M = zwith (runE P w cf ρ e M) ρ fun d M1 => some (.nx (ρ.set i (some d)), M1) := id rfl
@[simp] theorem rS_asgT {gs : List Nat} {e : Xp} : runS P w cf (.asg (.t gs) e) ρ M = zwith (runE P w cf ρ e M) ρ fun d M1 => oO (bindG (.t gs) d ρ) fun ρ' => some (.nx ρ', M1) := by
  show withE (runE P w cf ρ e M) ρ _ = withE (runE P w cf ρ e M) ρ _
  first | rfl | (congr 1; funext d M1; cases bindG (.t gs) d ρ <;> rfl)
@[simp] theorem rS_ex {e : Xp} : runS P w cf (.ex e) ρ M = zwith (runE P w cf ρ e M) ρ fun _ M1 => some (.nx ρ, M1) := id rfl
@[simp] theorem rS_ite {t : Tp} {a b : Sms} : runS P w cf (.ite t a b) ρ M = zwith (runT P w cf ρ t M) ρ fun k M1 => if k = true then runSs P w cf a ρ M1 else runSs P w cf b ρ M1 := by
  show withE (runT P w cf ρ t M) ρ _ = withE (runT P w cf ρ t M) ρ _
  first | rfl | (congr 1; funext k M1; cases k <;> rfl)
/-- a loop's turn -/
def foT (P : Pg) (w : Nat) (cf : Nat → List D → Store → Res D) (g : Gp) (b : Sms) : D → Rho → Store → Out := fun x ρ M => oO (bindG g x ρ) fun ρ' => runSs P w cf b ρ' M
def foW (f : D → Rho → Store → Out) (w : Nat) (k : Wk) (ρ : Rho) (M : Store) : Out := match k with
  | .items xs => forL f xs ρ M
  | .hot n => forH n f w 0 ρ M
@[simp] theorem foW_items {f : D → Rho → Store → Out} {xs : List D} : foW f w (.items xs) ρ M = forL f xs ρ M := id rfl
@[simp] theorem foW_hot {f : D → Rho → Store → Out} {n : Nat} : foW f w (.hot n) ρ M = forH n f w 0 ρ M := id rfl
@[simp] theorem rS_fo {g : Gp} {it : Ip} {b : Sms} : runS P w cf (.fo g it b) ρ M = zwith (runI P w cf ρ it M) ρ fun k M1 => foW (foT P w cf g b) w k ρ M1 := by
  have hf : (fun x ρ M => match bindG g x ρ with | some ρ' => runSs P w cf b ρ' M | none => none) = foT P w cf g b := by
    funext x ρ M
    unfold foT
    cases bindG g x ρ <;> rfl
  show withE (runI P w cf ρ it M) ρ _ = withE (runI P w cf ρ it M) ρ _
  congr 1; funext k M1
  rw [← hf]
  cases k <;> rfl
/-- a loop over a dict -/
def fodW (f : D → Rho → Store → Out) (o : Option (Option D)) (ρ : Rho) (M : Store) : Out := match o with
  | some (some (.ptr n)) => match M[n]? with
    | some (.dic tk kvs) => unlk n (forL f (kvs.map (·.1)) ρ (M.set n (.fdic tk kvs)))
    | _ => none
  | _ => none
theorem fodW_dic {f : D → Rho → Store → Out} {n : Nat} {tk : Bool} {kvs : List (D × D)} (h : M[n]? = some (.dic tk kvs)) : fodW f (some (some (.ptr n))) ρ M = unlk n (forL f (kvs.map (·.1)) ρ (M.set n (.fdic tk kvs))) := by
  simp only [fodW, h]
@[simp] theorem rS_fod {g : Gp} {i : Nat} {b : Sms} : runS P w cf (.fod g i b) ρ M = fodW (foT P w cf g b) ρ[i]? ρ M := by
  have hf : (fun x ρ M => match bindG g x ρ with | some ρ' => runSs P w cf b ρ' M | none => none) = foT P w cf g b := by
    funext x ρ M
    unfold foT
    cases bindG g x ρ <;> rfl
  show (match ρ[i]? with
    | some (some (.ptr n)) => match M[n]? with
      | some (.dic tk kvs) => unlk n (forL (fun x ρ M => match bindG g x ρ with
        | some ρ' => runSs P w cf b ρ' M
        | none => none) (List.map (fun p : D × D => p.1) kvs) ρ (M.set n (.fdic tk kvs)))
      | _ => none
    | _ => none) = _
  rw [hf]
  rfl
@[simp] theorem rS_ret {e : Xp} : runS P w cf (.ret e) ρ M = zwith (runE P w cf ρ e M) ρ fun d M1 => some (.rt d, M1) := id rfl
@[simp] theorem rS_rais {c : Nat} {as : Xps} : runS P w cf (.rais c as) ρ M = zwith (runA P w cf ρ as M) ρ fun xs M1 => oO P.ers[c]? fun e => if xs.length = e.flds.length then some (.er c xs.reverse ρ, M1) else none := by
  show withE (runA P w cf ρ as M) ρ _ = withE (runA P w cf ρ as M) ρ _
  first | rfl | (congr 1; funext xs M1; cases P.ers[c]? <;> rfl)
/-- a place of a list or a dict is set -/
def asgD (ob : Option Ob) (n : Nat) (y d : D) (ρ : Rho) (M : Store) : Out := match ob with
  | some (.lst xs) => match y with
    | .int k => match L2.ixN xs.length k with
      | some j => some (.nx ρ, M.set n (.lst (xs.set j d)))
      | none => none
    | _ => none
  | some (.dic tk kvs) => if isKey tk y ∧ kvs.length < big then some (.nx ρ, M.set n (.dic tk (dput kvs y d))) else none
  | _ => none
@[simp] theorem asgD_lst {xs : List D} {n : Nat} {k : Int} {d : D} : asgD (some (.lst xs)) n (.int k) d ρ M = oO (L2.ixN xs.length k) fun j => some (.nx ρ, M.set n (.lst (xs.set j d))) := by
  show (match L2.ixN xs.length k with | some j => some (Fl.nx ρ, M.set n (.lst (xs.set j d))) | none => none) = _
  cases L2.ixN xs.length k <;> rfl
@[simp] theorem asgD_dic {tk : Bool} {kvs : List (D × D)} {n : Nat} {y d : D} : asgD (some (.dic tk kvs)) n y d ρ M = if isKey tk y ∧ kvs.length < big then some (.nx ρ, M.set n (.dic tk (dput kvs y d))) else none := id rfl
@[simp] theorem rS_asgI {o i e : Xp} : runS P w cf (.asgI o i e) ρ M = zwith (runE P w cf ρ e M) ρ fun d M1 => zwith (runE P w cf ρ o M1) ρ fun x M2 => zwith (runE P w cf ρ i M2) ρ fun y M3 =>
    oP x fun n => asgD M3[n]? n y d ρ M3 := by
  show withE (runE P w cf ρ e M) ρ _ = withE (runE P w cf ρ e M) ρ _
  congr 1; funext d M1; congr 1; funext x M2; congr 1; funext y M3
  cases x <;> rfl
@[simp] theorem rS_augI {o i e : Xp} {op : Bop} : runS P w cf (.augI o i op e) ρ M = zwith (runE P w cf ρ o M) ρ fun x M1 => zwith (runE P w cf ρ i M1) ρ fun y M2 =>
    oP x fun n => oI y fun k => oL M2[n]? fun xs => oO (L2.atI xs k) fun u => oI u fun a => zwith (runE P w cf ρ e M2) ρ fun z M3 => oI z fun b => oL M3[n]? fun ys => oO (L2.ixN ys.length k) fun j =>
      match op with
      | .add => some (.nx ρ, M3.set n (.lst (ys.set j (.int (a + b)))))
      | .sub => some (.nx ρ, M3.set n (.lst (ys.set j (.int (a - b)))))
      | _ => none := by
  show withE (runE P w cf ρ o M) ρ _ = withE (runE P w cf ρ o M) ρ _
  congr 1; funext x M1; congr 1; funext y M2
  cases x with
  | ptr n =>
    cases y with
    | int k =>
      simp only [oP_ptr, oI_int]
      cases h : M2[n]? with
      | none => rfl
      | some ob =>
        cases ob with
        | lst xs =>
          simp only [oL_lst]
          cases h2 : L2.atI xs k with
          | none => rfl
          | some u =>
            simp only [oO_some]
            cases u with
            | int a =>
              simp only [oI_int]
              congr 1; funext z M3
              cases z with
              | int b =>
                simp only [oI_int]
                cases h : M3[n]? with
                | none => rfl
                | some ob =>
                  cases ob with
                  | lst ys =>
                    simp only [oL_lst]
                    cases L2.ixN ys.length k with
                    | none => rfl
                    | some j => cases op <;> rfl
                  | _ => rfl
              | _ => rfl
            | _ => rfl
        | _ => rfl
    | _ => rfl
  | _ => rfl
@[simp] theorem rS_asgF {o e : Xp} {f : Nat} : runS P w cf (.asgF o f e) ρ M = zwith (runE P w cf ρ e M) ρ fun d M1 => zwith (runE P w cf ρ o M1) ρ fun x M2 => oP x fun n => oN M2[n]? fun c fs =>
    if hasF P c f ∧ fs.length < 900 then some (.nx ρ, M2.set n (.ins c (setF f d fs))) else none := by
  show withE (runE P w cf ρ e M) ρ _ = withE (runE P w cf ρ e M) ρ _
  refine congrArg _ (funext fun d => funext fun M1 => congrArg _ (funext fun x => funext fun M2 => ?_))
  cases x with
  | ptr n =>
    simp only [oP_ptr]
    cases h : M2[n]? with
    | none => rfl
    | some ob => cases ob <;> rfl
  | _ => rfl
theorem rS_tr {b : Sms} {hs : List (Nat × Nat × Hx)} : runS P w cf (.tr b hs) ρ M = match runSs P w cf b ρ M with | some (.er c fs ρ', M') => handle P c fs ρ' M' hs | o => o := id rfl
theorem callF_eq {n f : Nat} {k : Fn} {as : List D} (hk : P.fns[f]? = some k) (hl : as.length = k.np) :
    callF P w (n + 1) f as M = finish k.trunc M (runSs P w (callF P w n) k.body (as.map some ++ List.replicate (k.names.length - k.np) none) M) := by
  rw [callF, hk]; simp [hl]
def lenD (o : Option (List D)) (p : Option (Bool × List (D × D))) (M : Store) : Res D := match o with
  | some xs => .ok (.int xs.length) M
  | none => match p with
    | some kv => .ok (.int kv.2.length) M
    | none => .stuck
@[simp] theorem lenD_seq {xs : List D} {p : Option (Bool × List (D × D))} : lenD (some xs) p M = .ok (.int xs.length) M := id rfl
@[simp] theorem lenD_dic {tk : Bool} {kvs : List (D × D)} : lenD none (some (tk, kvs)) M = .ok (.int kvs.length) M := id rfl
def obDN : Option Ob → Option (Bool × List (D × D)) | some (.dic tk kvs) => some (tk, kvs) | _ => none
@[simp] theorem obDN_dic {tk : Bool} {kvs : List (D × D)} : obDN (some (.dic tk kvs)) = some (tk, kvs) := id rfl
@[simp] theorem obDN_lst {xs : List D} : obDN (some (.lst xs)) = none := id rfl
@[simp] theorem dicN_ptr {n : Nat} : dicN M (.ptr n) = obDN M[n]? := id rfl
def obD : Option Ob → Option (Bool × List (D × D)) | some (.dic tk kvs) => some (tk, kvs) | some (.fdic tk kvs) => some (tk, kvs) | _ => none
@[simp] theorem obD_dic {tk : Bool} {kvs : List (D × D)} : obD (some (.dic tk kvs)) = some (tk, kvs) := id rfl
@[simp] theorem obD_fdic {tk : Bool} {kvs : List (D × D)} : obD (some (.fdic tk kvs)) = some (tk, kvs) := id rfl
@[simp] theorem obD_lst {xs : List D} : obD (some (.lst xs)) = none := id rfl
@[simp] theorem dicOf_ptr {n : Nat} : dicOf M (.ptr n) = obD M[n]? := id rfl
@[simp] theorem dicOf_lst {xs : List D} : dicOf M (.lst xs) = none := id rfl
@[simp] theorem dicOf_tup {xs : List D} : dicOf M (.tup xs) = none := id rfl
@[simp] theorem dicOf_scr {xs : List Int} : dicOf M (.scr xs) = none := id rfl
@[simp] theorem bi_len {x : D} : birun .len [x] M = lenD (seqOf M x) (dicN M x) M := id rfl
@[simp] theorem bi_sum {x : D} : birun .sum [x] M = onO ((seqOf M x).bind intsOf) fun ns => .ok (.int ns.sum) M := by
  show (match (seqOf M x).bind intsOf with | some ns => Res.ok (D.int ns.sum) M | none => .stuck) = _
  cases (seqOf M x).bind intsOf <;> rfl
@[simp] theorem bi_max1 {x : D} : birun .max1 [x] M = onO (((seqOf M x).bind intsOf).bind maxOf) fun m => .ok (.int m) M := by
  show (match ((seqOf M x).bind intsOf).bind maxOf with | some m => Res.ok (D.int m) M | none => .stuck) = _
  cases ((seqOf M x).bind intsOf).bind maxOf <;> rfl
@[simp] theorem bi_min1 {x : D} : birun .min1 [x] M = onO (((seqOf M x).bind intsOf).bind minOf) fun m => .ok (.int m) M := by
  show (match ((seqOf M x).bind intsOf).bind minOf with | some m => Res.ok (D.int m) M | none => .stuck) = _
  cases ((seqOf M x).bind intsOf).bind minOf <;> rfl
@[simp] theorem bi_max2 {i j : Int} : birun .max2 [.int i, .int j] M = .ok (.int (if j > i then j else i)) M := id rfl
@[simp] theorem bi_min2 {i j : Int} : birun .min2 [.int i, .int j] M = .ok (.int (if j < i then j else i)) M := id rfl
@[simp] theorem bi_abs {i : Int} : birun .abs [.int i] M = .ok (.int (if i < 0 then -i else i)) M := id rfl
@[simp] theorem bi_int {i : Int} : birun .int [.int i] M = .ok (.int i) M := id rfl
def srtD (hot : Bool) (o : Option (List Int)) (p : Option (List (Int × Int))) (M : Store) : Res D := match o with
  | some ns => newL hot ((sortI ns).map D.int) M
  | none => match p with
    | some ps => newL hot ((sortP ps).map pairD) M
    | none => .stuck
@[simp] theorem srtD_i {hot : Bool} {ns : List Int} {p : Option (List (Int × Int))} : srtD hot (some ns) p M = newL hot ((sortI ns).map D.int) M := id rfl
@[simp] theorem srtD_p {hot : Bool} {ps : List (Int × Int)} : srtD hot none (some ps) M = newL hot ((sortP ps).map pairD) M := id rfl
@[simp] theorem bi_sorted {hot : Bool} {x : D} : birun (.sorted hot) [x] M = srtD hot ((listOf M x).bind intsOf) ((listOf M x).bind pairsOf) M := id rfl
def lstD (hot : Bool) (o : Option (List D)) (p : Option (Bool × List (D × D))) (M : Store) : Res D := match o with
  | some xs => newL hot xs M
  | none => match p with
    | some kv => newL hot (kv.2.map (·.1)) M
    | none => .stuck
@[simp] theorem lstD_seq {hot : Bool} {xs : List D} {p : Option (Bool × List (D × D))} : lstD hot (some xs) p M = newL hot xs M := id rfl
@[simp] theorem lstD_dic {hot : Bool} {tk : Bool} {kvs : List (D × D)} : lstD hot none (some (tk, kvs)) M = newL hot (kvs.map (·.1)) M := id rfl
@[simp] theorem bi_list {hot : Bool} {x : D} : birun (.list hot) [x] M = lstD hot (seqOf M x) (dicN M x) M := id rfl
@[simp] theorem bi_tuple {x : D} : birun .tuple [x] M = onO (seqOf M x) fun xs => .ok (.tup xs) M := by
  show (match seqOf M x with | some xs => Res.ok (D.tup xs) M | none => .stuck) = _
  cases seqOf M x <;> rfl
@[simp] theorem newL_f {xs : List D} : newL false xs M = .ok (.lst xs) M := id rfl
@[simp] theorem newL_t {xs : List D} : newL true xs M = .ok (.ptr M.length) (M ++ [.lst xs]) := id rfl
@[simp] theorem seqOf_lst {xs : List D} : seqOf M (.lst xs) = some xs := id rfl
@[simp] theorem seqOf_tup {xs : List D} : seqOf M (.tup xs) = some xs := id rfl
@[simp] theorem seqOf_scr {ns : List Int} : seqOf M (.scr ns) = some (ns.map D.int) := id rfl
def obL : Option Ob → Option (List D) | some (.lst xs) => some xs | _ => none
@[simp] theorem obL_lst {xs : List D} : obL (some (.lst xs)) = some xs := id rfl
@[simp] theorem obL_dic {tk : Bool} {kvs : List (D × D)} : obL (some (.dic tk kvs)) = none := id rfl
@[simp] theorem obL_fdic {tk : Bool} {kvs : List (D × D)} : obL (some (.fdic tk kvs)) = none := id rfl
@[simp] theorem seqOf_ptr {n : Nat} : seqOf M (.ptr n) = obL M[n]? := by
  show (match M[n]? with | some (.lst xs) => some xs | _ => none) = _
  cases M[n]? with
  | none => rfl
  | some ob => cases ob <;> rfl
@[simp] theorem listOf_lst {xs : List D} : listOf M (.lst xs) = some xs := id rfl
@[simp] theorem listOf_ptr {n : Nat} : listOf M (.ptr n) = obL M[n]? := by
  show (match M[n]? with | some (.lst xs) => some xs | _ => none) = _
  cases M[n]? with
  | none => rfl
  | some ob => cases ob <;> rfl
@[simp] theorem walk_lst {xs : List D} : walkOf M (.lst xs) = some (.items xs) := id rfl
@[simp] theorem walk_tup {xs : List D} : walkOf M (.tup xs) = some (.items xs) := id rfl
@[simp] theorem walk_scr {xs : List Int} : walkOf M (.scr xs) = some (.items (xs.map D.int)) := id rfl
theorem walk_ptr {n : Nat} {xs : List D} (h : M[n]? = some (.lst xs)) : walkOf M (.ptr n) = some (.hot n) := by
  simp only [walkOf, h]
@[simp] theorem bm_append {n : Nat} {y : D} : bmrun .append (.ptr n) [y] M = onL M[n]? fun xs => if xs.length < big then .ok .non (M.set n (.lst (xs ++ [y]))) else .stuck := by
  show (match M[n]? with | some (.lst xs) => if xs.length < big then Res.ok D.non (M.set n (.lst (xs ++ [y]))) else .stuck | _ => .stuck) = _
  cases M[n]? with
  | none => rfl
  | some ob => cases ob <;> rfl
def popI (n : Nat) (i : Int) (xs : List D) (M : Store) : Res D := if 0 ≤ i ∧ i ≤ 16777216 ∧ i < xs.length then onO xs[i.toNat]? fun y => .ok y (M.set n (.lst (xs.eraseIdx i.toNat))) else .stuck
theorem popI_ok {n : Nat} {i : Int} {xs : List D} {y : D} (h0 : 0 ≤ i) (h1 : i ≤ 16777216) (h : xs[i.toNat]? = some y) : popI n i xs M = .ok y (M.set n (.lst (xs.eraseIdx i.toNat))) := by
  have := (List.getElem?_eq_some_iff.mp h).1
  unfold popI
  rw [if_pos ⟨h0, by omega, by omega⟩, h]; rfl
@[simp] theorem bm_popAt {n : Nat} {i : Int} : bmrun .popAt (.ptr n) [.int i] M = onL M[n]? fun xs => popI n i xs M := by
  unfold popI
  show (match M[n]? with | some (.lst xs) => if 0 ≤ i ∧ i ≤ 16777216 ∧ i < xs.length then match xs[i.toNat]? with | some y => Res.ok y (M.set n (.lst (xs.eraseIdx i.toNat))) | none => .stuck else .stuck | _ => .stuck) = _
  cases M[n]? with
  | none => rfl
  | some ob =>
    cases ob with
    | lst xs =>
      simp only [onL_lst]
      congr 1
      cases xs[i.toNat]? <;> rfl
    | _ => rfl
def ixD (o : Option (Bool × List (D × D))) (p : Option (List D)) (y : D) (M : Store) : Res D := match o with
  | some kv => if isKey kv.1 y then match dget kv.2 y with
      | some v => .ok v M
      | none => .stuck
    else .stuck
  | none => match y with
    | .int i => match p with
      | some xs => match L2.atI xs i with
        | some v => .ok v M
        | none => .stuck
      | none => .stuck
    | _ => .stuck
@[simp] theorem ixD_seq {xs : List D} {i : Int} : ixD none (some xs) (.int i) M = onO (L2.atI xs i) fun v => .ok v M := by
  show (match L2.atI xs i with | some v => Res.ok v M | none => .stuck) = _
  cases L2.atI xs i <;> rfl
@[simp] theorem ixD_dic {tk : Bool} {kvs : List (D × D)} {p : Option (List D)} {y : D} : ixD (some (tk, kvs)) p y M = if isKey tk y = true then onO (dget kvs y) fun v => .ok v M else .stuck := by
  show (if isKey tk y then match dget kvs y with | some v => Res.ok v M | none => .stuck else .stuck) = _
  cases dget kvs y <;> rfl
@[simp] theorem ixd_int {x y : D} : ixd M x y = ixD (dicOf M x) (seqOf M x) y M := id rfl
theorem inn_dic {n : Nat} {tk : Bool} {kvs : List (D × D)} {x : D} (h : obD M[n]? = some (tk, kvs)) (hl : obL M[n]? = none) (hk : isKey tk x = true) : cmpop .inn x (.ptr n) M = .ok (.bl (dget kvs x).isSome) M := by
  simp only [cmpop, seqOf_ptr, hl, dicOf_ptr, h, hk, if_true]
theorem nin_dic {n : Nat} {tk : Bool} {kvs : List (D × D)} {x : D} (h : obD M[n]? = some (tk, kvs)) (hl : obL M[n]? = none) (hk : isKey tk x = true) : cmpop .nin x (.ptr n) M = .ok (.bl (!(dget kvs x).isSome)) M := by
  simp only [cmpop, seqOf_ptr, hl, dicOf_ptr, h, hk, if_true]
@[simp] theorem sld_lst {xs : List D} {l h : Option Int} : sld M (.lst xs) l h = .ok (.lst (cutd xs l h)) M := id rfl
@[simp] theorem sld_scr {xs : List Int} {l h : Option Int} : sld M (.scr xs) l h = .ok (.lst (cutd (xs.map D.int) l h)) M := id rfl
@[simp] theorem isTy_int {t : Ty} {i : Int} : isTy M t (.int i) = some (t matches Ty.int) := by cases t <;> rfl
@[simp] theorem isTy_tup {t : Ty} {i : List D} : isTy M t (.tup i) = some (t matches Ty.tuple) := by cases t <;> rfl
@[simp] theorem isTy_lst {t : Ty} {i : List D} : isTy M t (.lst i) = some (t matches Ty.list) := by cases t <;> rfl
theorem isTy_ptr {n : Nat} {xs : List D} (h : M[n]? = some (.lst xs)) : isTy M .list (.ptr n) = some true := by
  simp only [isTy, h]
@[simp] theorem bindG_n {i : Nat} {d : D} {ρ : Rho} : bindG (.n i) d ρ = some (ρ.set i (some d)) := id rfl
theorem bindG_t {gs : List Nat} {ds : List D} {ρ : Rho} : bindG (.t gs) (.tup ds) ρ = if ds.length = gs.length then some ((gs.zip ds).foldl (fun ρ p => ρ.set p.1 (some p.2)) ρ) else none := id rfl
theorem bindG_l {gs : List Nat} {ds : List D} {ρ : Rho} : bindG (.t gs) (.lst ds) ρ = if ds.length = gs.length then some ((gs.zip ds).foldl (fun ρ p => ρ.set p.1 (some p.2)) ρ) else none := id rfl
end
@[simp] theorem finish_er {tr : Bool} {M M' : Store} {c : Nat} {fs : List D} {ρ : Rho} : finish tr M (some (.er c fs ρ, M')) = .err c fs M' := id rfl
theorem finish_rt_same {tr : Bool} {M M' : Store} {d : D} (h : M'.length = M.length) : finish tr M (some (.rt d, M')) = .ok d M' := by
  simp only [finish]; split <;> simp [← h]
theorem finish_nx_same {tr : Bool} {M M' : Store} {ρ : Rho} (h : M'.length = M.length) : finish tr M (some (.nx ρ, M')) = .ok .non M' := by
  simp only [finish]; split <;> simp [← h]
@[simp] theorem finish_rt0 {tr : Bool} {M : Store} {d : D} : finish tr M (some (.rt d, M)) = .ok d M := finish_rt_same rfl
@[simp] theorem finish_nx0 {tr : Bool} {M : Store} {ρ : Rho} : finish tr M (some (.nx ρ, M)) = .ok .non M := finish_nx_same rfl
/-- new places are let go -/
theorem finish_rt_cut {M M' R : Store} {d : D} (h : M' = M ++ R) (hd : underD M.length d = true) : finish true M (some (.rt d, M')) = .ok d M := by
  subst h
  simp only [finish]
  rw [if_pos ⟨rfl, hd, .inl (by simp)⟩]
  simp
/-- .. beside an older list of ints that has changed -/
theorem finish_rt_cut2 {M M' N R : Store} {d : D} (h : M' = N ++ R) (hl : N.length = M.length) (hd : underD M.length d = true) (hN : N.all (underO M.length) = true) : finish true M (some (.rt d, M')) = .ok d N := by
  subst h
  simp only [finish]
  rw [if_pos ⟨rfl, hd, .inr (by rw [← hl, List.take_left]; rw [hl]; exact hN)⟩]
  rw [← hl, List.take_left]
section
variable {M : Store}
@[simp] theorem add_ii {i j : Int} : binop .add (.int i) (.int j) M = .ok (.int (i + j)) M := id rfl
@[simp] theorem sub_ii {i j : Int} : binop .sub (.int i) (.int j) M = .ok (.int (i - j)) M := id rfl
theorem mul_ii {i j : Int} (h : (-18446744073709551616 < i ∧ i < 18446744073709551616) ∨ (-18446744073709551616 < j ∧ j < 18446744073709551616)) : binop .mul (.int i) (.int j) M = .ok (.int (i * j)) M := if_pos h
theorem fdiv_ii {i j : Int} (h : 0 < j ∧ j < 1073741824) : binop .fdiv (.int i) (.int j) M = .ok (.int (i / j)) M := if_pos h
theorem mod_ii {i j : Int} (h : 0 < j) : binop .mod (.int i) (.int j) M = .ok (.int (i % j)) M := if_pos h
theorem pow_ii {i j : Int} (h : 0 ≤ j ∧ j ≤ 1000000 ∧ i.natAbs < 18446744073709551616) : binop .pow (.int i) (.int j) M = .ok (.int (i ^ j.toNat)) M := if_pos h
@[simp] theorem pow_10_6 : binop .pow (.int 10) (.int 6) M = .ok (.int 1000000) M := by rw [pow_ii (by decide)]; rfl
@[simp] theorem pow_10_18 : binop .pow (.int 10) (.int 18) M = .ok (.int 1000000000000000000) M := by rw [pow_ii (by decide)]; rfl
theorem add_ll {xs ys : List D} (h : xs.length + ys.length ≤ big) : binop .add (.lst xs) (.lst ys) M = .ok (.lst (xs ++ ys)) M := if_pos h
theorem mul_li {xs : List D} {k : Int} (h : -16777216 ≤ k ∧ k ≤ 16777216 ∧ xs.length * k.toNat ≤ big) : binop .mul (.lst xs) (.int k) M = .ok (.lst (List.replicate k.toNat xs).flatten) M := if_pos h
@[simp] theorem lt_ii {i j : Int} : cmpop .lt (.int i) (.int j) M = .ok (.bl (decide (i < j))) M := id rfl
@[simp] theorem le_ii {i j : Int} : cmpop .le (.int i) (.int j) M = .ok (.bl (decide (i ≤ j))) M := id rfl
@[simp] theorem gt_ii {i j : Int} : cmpop .gt (.int i) (.int j) M = .ok (.bl (decide (j < i))) M := id rfl
@[simp] theorem ge_ii {i j : Int} : cmpop .ge (.int i) (.int j) M = .ok (.bl (decide (j ≤ i))) M := id rfl
theorem eq_dd {x y : D} (hx : okd 12 (top M x) = true) (hy : okd 12 (top M y) = true) : cmpop .eq x y M = .ok (.bl (eqd (top M x) (top M y))) M := if_pos ⟨hx, hy⟩
theorem ne_dd {x y : D} (hx : okd 12 (top M x) = true) (hy : okd 12 (top M y) = true) : cmpop .ne x y M = .ok (.bl (!eqd (top M x) (top M y))) M := if_pos ⟨hx, hy⟩
@[simp] theorem eq_ii {i j : Int} : cmpop .eq (.int i) (.int j) M = .ok (.bl (i == j)) M := by rw [eq_dd rfl rfl]; simp [top, eqd]
@[simp] theorem ne_ii {i j : Int} : cmpop .ne (.int i) (.int j) M = .ok (.bl (!(i == j))) M := by rw [ne_dd rfl rfl]; simp [top, eqd]
@[simp] theorem truth_bl {b : Bool} : truth M (.bl b) = some b := id rfl
@[simp] theorem truth_int {i : Int} : truth M (.int i) = some (i != 0) := id rfl
end
theorem atI_nat {α : Type} {xs : List α} {i : Nat} {v : α} (h : xs[i]? = some v) : L2.atI xs (i : Int) = some v := by
  have hl := (List.getElem?_eq_some_iff.mp h).1
  unfold L2.atI L2.ixN
  rw [if_pos (by omega), if_pos (by omega)]
  simpa using h
end G

/-! GLoop -/
set_option maxRecDepth 100000
set_option maxHeartbeats 4000000
namespace G
/-- an end that no loop takes back -/
def isEnd : Fl → Bool | .rt _ => true | .er _ _ _ => true | _ => false
theorem turn_end {e : Fl × Store} {go : Rho → Store → Out} (h : isEnd e.1 = true) : turn (some e) go = some e := by
  obtain ⟨fl, M⟩ := e
  cases fl <;> first | rfl | cases h
theorem forL_drop {α : Type} {l : List α} {g : α → D} {f : D → Rho → Store → Out} {ρs : Nat → Rho} {Ms : Nat → Store} {bad : Nat → Option (Fl × Store)} (he : ∀ i e, bad i = some e → isEnd e.1 = true)
    (h : ∀ i a, l[i]? = some a → f (g a) (ρs i) (Ms i) = match bad i with | some e => some e | none => some (.nx (ρs (i + 1)), Ms (i + 1))) :
    ∀ m k, k + m = l.length → forL f ((l.drop k).map g) (ρs k) (Ms k) = match ((List.range l.length).drop k).findSome? bad with | some e => some e | none => some (.nx (ρs l.length), Ms l.length)
  | 0, k, hk => by
    have hk : k = l.length := by omega
    subst hk
    have e1 : (List.range l.length).drop l.length = [] := List.drop_eq_nil_of_le (by simp)
    rw [e1]
    simp [forL]
  | m + 1, k, hk => by
    have hlt : k < l.length := by omega
    have hr : (List.range l.length).drop k = k :: (List.range l.length).drop (k + 1) := by
      rw [List.drop_eq_getElem_cons (by simpa using hlt), List.getElem_range]
    rw [hr, List.drop_eq_getElem_cons hlt, List.map_cons, forL, h k l[k] (by simp [hlt]), List.findSome?_cons]
    cases hb : bad k with
    | some e => simp only [turn_end (he k e hb)]
    | none =>
      simp only [turn_nx]
      exact forL_drop he h m (k + 1) (by omega)
theorem forL_seq {α : Type} {l : List α} {g : α → D} {f : D → Rho → Store → Out} (ρs : Nat → Rho) (Ms : Nat → Store) (bad : Nat → Option (Fl × Store)) {ρ : Rho} {M : Store} (hρ : ρs 0 = ρ) (hM : Ms 0 = M) (he : ∀ i e, bad i = some e → isEnd e.1 = true)
    (h : ∀ i a, l[i]? = some a → f (g a) (ρs i) (Ms i) = match bad i with | some e => some e | none => some (.nx (ρs (i + 1)), Ms (i + 1))) :
    forL f (l.map g) ρ M = match (List.range l.length).findSome? bad with | some e => some e | none => some (.nx (ρs l.length), Ms l.length) := by
  have := forL_drop he h l.length 0 (by omega)
  rw [← hρ, ← hM]
  simpa using this
/-- a loop that goes to its end -/
theorem forL_all {α : Type} {l : List α} {g : α → D} {f : D → Rho → Store → Out} (ρs : Nat → Rho) (Ms : Nat → Store) {ρ : Rho} {M : Store} (hρ : ρs 0 = ρ) (hM : Ms 0 = M) (h : ∀ i a, l[i]? = some a → f (g a) (ρs i) (Ms i) = some (.nx (ρs (i + 1)), Ms (i + 1))) :
    forL f (l.map g) ρ M = some (.nx (ρs l.length), Ms l.length) := by
  rw [forL_seq (l := l) (g := g) (f := f) ρs Ms (fun _ => none) hρ hM (fun i e h => by cases h) h]
  have : (List.range l.length).findSome? (fun _ => (none : Option (Fl × Store))) = none := by simp
  rw [this]
/-- by an invariant on slots and store: each turn goes on -/
theorem forL_inv {α : Type} {l : List α} {g : α → D} {f : D → Rho → Store → Out} (I : Nat → Rho → Store → Prop) {ρ : Rho} {M : Store} (h0 : I 0 ρ M) (h : ∀ i a ρ M, l[i]? = some a → I i ρ M → ∃ ρ' M', f (g a) ρ M = some (.nx ρ', M') ∧ I (i + 1) ρ' M') :
    ∃ ρ' M', forL f (l.map g) ρ M = some (.nx ρ', M') ∧ I l.length ρ' M' := by
  have key : ∀ m k ρ M, k + m = l.length → I k ρ M → ∃ ρ' M', forL f ((l.drop k).map g) ρ M = some (.nx ρ', M') ∧ I l.length ρ' M' := by
    intro m
    induction m with
    | zero =>
      intro k ρ M hk i
      have hk : k = l.length := by omega
      subst hk
      exact ⟨ρ, M, by simp [forL], i⟩
    | succ m ih =>
      intro k ρ M hk i
      have hlt : k < l.length := by omega
      obtain ⟨ρ', M', e, i'⟩ := h k l[k] ρ M (by simp [hlt]) i
      rw [List.drop_eq_getElem_cons hlt, List.map_cons, forL, e, turn_nx]
      exact ih (k + 1) ρ' M' (by omega) i'
  simpa using key l.length 0 ρ M (by omega) h0
theorem foT_app {P : Pg} {w : Nat} {cf : Nat → List D → Store → Res D} {g : Gp} {b : Sms} {x : D} {ρ : Rho} {M : Store} : foT P w cf g b x ρ M = oO (bindG g x ρ) fun ρ' => runSs P w cf b ρ' M := rfl
theorem lcT_app {P : Pg} {w : Nat} {cf : Nat → List D → Store → Res D} {ρ : Rho} {g : Gp} {t : Tps} {e : Xp} {x : D} {M : Store} : lcT P w cf ρ g t e x M = onO (bindG g x (wipeR ρ (gslots g))) fun ρ' => ((runTs P w cf ρ' t M).noerr).zbind fun b M2 => if b = true then ((runE P w cf ρ' e M2).noerr).zbind fun y M3 => .ok (some y) M3 else .ok none M2 := rfl
theorem rngOf_map (k : Nat) : rngOf 0 (k : Int) = (List.range k).map fun (i : Nat) => D.int (i : Int) := by
  unfold rngOf
  simp
theorem range_get {k i a : Nat} (h : (List.range k)[i]? = some a) : i < k ∧ a = i := by
  obtain ⟨h1, h2⟩ := List.getElem?_eq_some_iff.mp h
  simp at h1 h2
  exact ⟨h1, h2.symm⟩
theorem lcA_map {α : Type} {f : D → Store → Res (Option D)} {g k : α → D} {M : Store} : ∀ {l : List α} {acc : List D}, (∀ a ∈ l, f (g a) M = .ok (some (k a)) M) → acc.length + l.length ≤ big → lcA f (l.map g) acc M = .ok (acc ++ l.map k) M
  | [], acc, _, _ => by simp [lcA]
  | a :: l, acc, h, hb => by
    rw [List.length_cons] at hb
    rw [List.map_cons, lcA, h a List.mem_cons_self, bind_ok]
    simp only
    rw [if_pos (by omega), lcA_map (fun b hb => h b (List.mem_cons_of_mem _ hb)) (by rw [List.length_append]; simp; omega)]
    simp
theorem lcA_filter {α : Type} {f : D → Store → Res (Option D)} {g k : α → D} {p : α → Bool} {M : Store} : ∀ {l : List α} {acc : List D}, (∀ a ∈ l, f (g a) M = .ok (if p a = true then some (k a) else none) M) → acc.length + l.length ≤ big → lcA f (l.map g) acc M = .ok (acc ++ (l.filter p).map k) M
  | [], acc, _, _ => by simp [lcA]
  | a :: l, acc, h, hb => by
    rw [List.length_cons] at hb
    rw [List.map_cons, lcA, h a List.mem_cons_self, bind_ok]
    cases hp : p a
    · simp only [hp, Bool.false_eq_true, if_false, List.filter_cons]
      exact lcA_filter (fun b hb => h b (List.mem_cons_of_mem _ hb)) (by omega)
    · simp only [hp, if_true, List.filter_cons]
      rw [if_pos (by omega), lcA_filter (fun b hb => h b (List.mem_cons_of_mem _ hb)) (by rw [List.length_append]; simp; omega)]
      simp
/-- .. that changes the store, each item with a property -/
theorem lcA_inv {α : Type} {f : D → Store → Res (Option D)} {g : α → D} (I : Store → Prop) (p : α → D → Prop) : ∀ {l : List α} {acc : List D} {M : Store}, (∀ a ∈ l, ∀ M, I M → ∃ y M', f (g a) M = .ok (some y) M' ∧ I M' ∧ p a y) → I M → acc.length + l.length ≤ big →
    ∃ ys M', lcA f (l.map g) acc M = .ok (acc ++ ys) M' ∧ I M' ∧ ys.length = l.length ∧ ∀ (i : Nat) a y, l[i]? = some a → ys[i]? = some y → p a y
  | [], acc, M, _, i, _ => ⟨[], M, by simp [lcA], i, rfl, fun i a y h => by simp at h⟩
  | a :: l, acc, M, h, i, hb => by
    rw [List.length_cons] at hb
    obtain ⟨y, M1, e, i1, py⟩ := h a List.mem_cons_self M i
    obtain ⟨ys, M2, e2, i2, hl, hp⟩ := lcA_inv I p (acc := acc ++ [y]) (fun b hb => h b (List.mem_cons_of_mem _ hb)) i1 (by rw [List.length_append]; simp; omega)
    refine ⟨y :: ys, M2, ?_, i2, by simp [hl], fun j b z hj hz => ?_⟩
    · rw [List.map_cons, lcA, e, bind_ok]
      simp only
      rw [if_pos (by omega), e2]
      simp
    · cases j with
      | zero => simp at hj hz; subst hj hz; exact py
      | succ j => exact hp j b z (by simpa using hj) (by simpa using hz)
end G

/-! GLaz -/
set_option maxRecDepth 100000
namespace G
def trH (P : Pg) (hs : List (Nat × Nat × Hx)) (o : Out) : Out := match o with | some (.er c fs ρ', M') => handle P c fs ρ' M' hs | o => o
theorem rS_try {P : Pg} {w : Nat} {cf : Nat → List D → Store → Res D} {ρ : Rho} {M : Store} {b : Sms} {hs : List (Nat × Nat × Hx)} : runS P w cf (.tr b hs) ρ M = trH P hs (runSs P w cf b ρ M) := id rfl
@[simp] theorem trH_er {P : Pg} {hs : List (Nat × Nat × Hx)} {c : Nat} {fs : List D} {ρ : Rho} {M : Store} : trH P hs (some (.er c fs ρ, M)) = handle P c fs ρ M hs := id rfl
@[simp] theorem trH_nx {P : Pg} {hs : List (Nat × Nat × Hx)} {ρ : Rho} {M : Store} : trH P hs (some (.nx ρ, M)) = some (.nx ρ, M) := id rfl
@[simp] theorem trH_rt {P : Pg} {hs : List (Nat × Nat × Hx)} {d : D} {M : Store} : trH P hs (some (.rt d, M)) = some (.rt d, M) := id rfl
/-- a loop that goes to its end: a fold of a state that slots and store show -/
theorem forL_rel {α σ : Type} {l : List α} {g : α → D} {f : D → Rho → Store → Out} (R : σ → Rho → Store → Prop) (step : σ → α → σ) {s : σ} {ρ : Rho} {M : Store} (h0 : R s ρ M)
    (h : ∀ a ∈ l, ∀ s ρ M, R s ρ M → ∃ ρ' M', f (g a) ρ M = some (.nx ρ', M') ∧ R (step s a) ρ' M') : ∃ ρ' M', forL f (l.map g) ρ M = some (.nx ρ', M') ∧ R (l.foldl step s) ρ' M' := by
  induction l generalizing s ρ M with
  | nil => exact ⟨ρ, M, rfl, h0⟩
  | cons a l ih =>
    obtain ⟨ρ', M', e, r⟩ := h a List.mem_cons_self s ρ M h0
    rw [List.map_cons, forL, e, turn_nx]
    exact ih r fun b hb => h b (List.mem_cons_of_mem _ hb)
/-- a loop that looks for the first item with an end -/
theorem forL_find {α ε : Type} {l : List α} {g : α → D} {f : D → Rho → Store → Out} (R : Rho → Store → Prop) (bad : α → Option ε) (X : ε → Fl → Store → Prop) {ρ : Rho} {M : Store} (h0 : R ρ M)
    (h : ∀ a ∈ l, ∀ ρ M, R ρ M → match bad a with | none => ∃ ρ' M', f (g a) ρ M = some (.nx ρ', M') ∧ R ρ' M' | some e => ∃ fl M', f (g a) ρ M = some (fl, M') ∧ isEnd fl = true ∧ X e fl M') :
    match l.findSome? bad with | none => ∃ ρ' M', forL f (l.map g) ρ M = some (.nx ρ', M') ∧ R ρ' M' | some e => ∃ fl M', forL f (l.map g) ρ M = some (fl, M') ∧ X e fl M' := by
  induction l generalizing ρ M with
  | nil => exact ⟨ρ, M, rfl, h0⟩
  | cons a l ih =>
    have ha := h a List.mem_cons_self ρ M h0
    rw [List.findSome?_cons, List.map_cons, forL]
    cases hb : bad a with
    | some e =>
      rw [hb] at ha
      obtain ⟨fl, M', e1, e2, x⟩ := ha
      exact ⟨fl, M', by rw [e1, turn_end e2], x⟩
    | none =>
      rw [hb] at ha
      obtain ⟨ρ', M', e, r⟩ := ha
      have := ih r fun b hb => h b (List.mem_cons_of_mem _ hb)
      rw [e, turn_nx]
      exact this
/-- .. that returns -/
theorem forL_ret {α : Type} {l : List α} {g : α → D} {f : D → Rho → Store → Out} (R : Rho → Store → Prop) (bad : α → Option D) {ρ : Rho} {M : Store} (h0 : R ρ M) (hM : ∀ ρ' M', R ρ' M' → M' = M)
    (h : ∀ a ∈ l, ∀ ρ, R ρ M → match bad a with | none => ∃ ρ', f (g a) ρ M = some (.nx ρ', M) ∧ R ρ' M | some d => f (g a) ρ M = some (.rt d, M)) :
    match l.findSome? bad with | none => ∃ ρ', forL f (l.map g) ρ M = some (.nx ρ', M) ∧ R ρ' M | some d => forL f (l.map g) ρ M = some (.rt d, M) := by
  have key := forL_find (l := l) (g := g) (f := f) R bad (fun d fl M' => fl = .rt d ∧ M' = M) h0 fun a ha ρ M1 r => by
    have e := hM _ _ r
    subst e
    have := h a ha ρ r
    cases hb : bad a with
    | none => rw [hb] at this; obtain ⟨ρ', e, r⟩ := this; exact ⟨ρ', _, e, r⟩
    | some d => rw [hb] at this; exact ⟨_, _, this, rfl, rfl, rfl⟩
  cases hb : l.findSome? bad with
  | none => rw [hb] at key; obtain ⟨ρ', M', e, r⟩ := key; have := hM _ _ r; subst this; exact ⟨ρ', e, r⟩
  | some d => rw [hb] at key; obtain ⟨fl, M', e, rfl, rfl⟩ := key; exact e
/-- .. that raises -/
theorem forL_rai {α : Type} {l : List α} {g : α → D} {f : D → Rho → Store → Out} (R : Rho → Store → Prop) (bad : α → Option (Nat × List D)) {ρ : Rho} {M : Store} (h0 : R ρ M) (hM : ∀ ρ' M', R ρ' M' → M' = M)
    (h : ∀ a ∈ l, ∀ ρ, R ρ M → match bad a with | none => ∃ ρ', f (g a) ρ M = some (.nx ρ', M) ∧ R ρ' M | some d => ∃ ρ', f (g a) ρ M = some (.er d.1 d.2 ρ', M)) :
    match l.findSome? bad with | none => ∃ ρ', forL f (l.map g) ρ M = some (.nx ρ', M) ∧ R ρ' M | some d => ∃ ρ', forL f (l.map g) ρ M = some (.er d.1 d.2 ρ', M) := by
  have key := forL_find (l := l) (g := g) (f := f) R bad (fun d fl M' => (∃ ρ', fl = .er d.1 d.2 ρ') ∧ M' = M) h0 fun a ha ρ M1 r => by
    have e := hM _ _ r
    subst e
    have := h a ha ρ r
    cases hb : bad a with
    | none => rw [hb] at this; obtain ⟨ρ', e, r⟩ := this; exact ⟨ρ', _, e, r⟩
    | some d => rw [hb] at this; obtain ⟨ρ', e⟩ := this; exact ⟨_, _, e, rfl, ⟨_, rfl⟩, rfl⟩
  cases hb : l.findSome? bad with
  | none => rw [hb] at key; obtain ⟨ρ', M', e, r⟩ := key; have := hM _ _ r; subst this; exact ⟨ρ', e, r⟩
  | some d => rw [hb] at key; obtain ⟨fl, M', e, ⟨ρ', rfl⟩, rfl⟩ := key; exact ⟨ρ', e⟩
def Nx (o : Out) (I : Rho → Store → Prop) : Prop := ∃ ρ M, o = some (.nx ρ, M) ∧ I ρ M
def Rt (o : Out) (Q : D → Store → Prop) : Prop := ∃ d M, o = some (.rt d, M) ∧ Q d M
theorem Nx.step {o : Out} {k : Rho → Store → Out} {I : Rho → Store → Prop} (ρ : Rho) (M : Store) (h : o = some (.nx ρ, M)) (h' : Nx (k ρ M) I) : Nx (zthen o k) I := by subst h; exact h'
theorem Rt.step {o : Out} {k : Rho → Store → Out} {I : D → Store → Prop} (ρ : Rho) (M : Store) (h : o = some (.nx ρ, M)) (h' : Rt (k ρ M) I) : Rt (zthen o k) I := by subst h; exact h'
theorem Nx.then {o : Out} {k : Rho → Store → Out} {I J : Rho → Store → Prop} (h : Nx o I) (h' : ∀ ρ M, I ρ M → Nx (k ρ M) J) : Nx (zthen o k) J := by obtain ⟨ρ, M, rfl, i⟩ := h; exact h' ρ M i
theorem Rt.then {o : Out} {k : Rho → Store → Out} {I : Rho → Store → Prop} {J : D → Store → Prop} (h : Nx o I) (h' : ∀ ρ M, I ρ M → Rt (k ρ M) J) : Rt (zthen o k) J := by obtain ⟨ρ, M, rfl, i⟩ := h; exact h' ρ M i
theorem Nx.last {o : Out} {I : Rho → Store → Prop} (h : Nx o I) : Nx (zthen o fun ρ' M' => some (.nx ρ', M')) I := by obtain ⟨ρ, M, rfl, i⟩ := h; exact ⟨ρ, M, rfl, i⟩
theorem Nx.is {ρ : Rho} {M : Store} {I : Rho → Store → Prop} (h : I ρ M) : Nx (some (.nx ρ, M)) I := ⟨ρ, M, rfl, h⟩
theorem Nx.of {o : Out} {I : Rho → Store → Prop} (ρ : Rho) (M : Store) (e : o = some (.nx ρ, M)) (h : I ρ M) : Nx o I := ⟨ρ, M, e, h⟩
theorem Rt.of {o : Out} {k : Rho → Store → Out} {I : D → Store → Prop} (d : D) (M : Store) (e : o = some (.rt d, M)) (h : I d M) : Rt (zthen o k) I := by subst e; exact ⟨d, M, rfl, h⟩
theorem Nx.mono {o : Out} {I J : Rho → Store → Prop} (h : Nx o I) (f : ∀ ρ M, I ρ M → J ρ M) : Nx o J := by obtain ⟨ρ, M, e, i⟩ := h; exact ⟨ρ, M, e, f ρ M i⟩
abbrev Er1 := Nat × List D
def resE (e : Option Er1) (M : Store) : Res D := match e with | some e => .err e.1 e.2 M | none => .ok .non M
@[simp] theorem resE_none {M : Store} : resE none M = .ok .non M := id rfl
@[simp] theorem resE_some {M : Store} {e : Er1} : resE (some e) M = .err e.1 e.2 M := id rfl
def Rai (R : Rho → Prop) (M : Store) (e : Option Er1) (o : Out) : Prop := match e with
  | none => ∃ ρ', o = some (.nx ρ', M) ∧ R ρ'
  | some d => ∃ ρ', o = some (.er d.1 d.2 ρ', M)
theorem Rai.then {R R' : Rho → Prop} {M : Store} {e e' : Option Er1} {o : Out} {k : Rho → Store → Out} (h : Rai R M e o) (h' : ∀ ρ, R ρ → Rai R' M e' (k ρ M)) : Rai R' M (e.or e') (zthen o k) := by
  cases e with
  | none => obtain ⟨ρ, rfl, r⟩ := h; exact h' ρ r
  | some d => obtain ⟨ρ, rfl⟩ := h; exact ⟨ρ, rfl⟩
theorem Rai.last {R : Rho → Prop} {M : Store} {e : Option Er1} {o : Out} (h : Rai R M e o) : Rai R M e (zthen o fun ρ' M' => some (.nx ρ', M')) := by
  cases e with
  | none => obtain ⟨ρ, rfl, r⟩ := h; exact ⟨ρ, rfl, r⟩
  | some d => obtain ⟨ρ, rfl⟩ := h; exact ⟨ρ, rfl⟩
theorem Rai.fin {R : Rho → Prop} {M : Store} {e : Option Er1} {o : Out} {tr : Bool} (h : Rai R M e o) : finish tr M o = resE e M := by
  cases e with
  | none => obtain ⟨ρ, rfl, r⟩ := h; simp
  | some d => obtain ⟨ρ, rfl⟩ := h; simp
theorem Rai.loop {α : Type} {l : List α} {g : α → D} {f : D → Rho → Store → Out} {R : Rho → Prop} {bad : α → Option Er1} {ρ : Rho} {M : Store} (h0 : R ρ)
    (h : ∀ a ∈ l, ∀ ρ, R ρ → Rai R M (bad a) (f (g a) ρ M)) : Rai R M (l.findSome? bad) (forL f (l.map g) ρ M) := by
  have key := forL_rai (l := l) (g := g) (f := f) (M := M) (fun ρ M' => M' = M ∧ R ρ) bad ⟨rfl, h0⟩ (fun _ _ h => h.1) fun a ha ρ r => by
    have := h a ha ρ r.2
    cases hb : bad a with
    | none => rw [hb] at this; obtain ⟨ρ', e, r⟩ := this; exact ⟨ρ', e, rfl, r⟩
    | some d => rw [hb] at this; exact this
  cases hb : l.findSome? bad with
  | none => rw [hb] at key; obtain ⟨ρ', e, r⟩ := key; exact ⟨ρ', e, r.2⟩
  | some d => rw [hb] at key; exact key
/-- a call that raises or gives None -/
theorem Rai.ex {R : Rho → Prop} {ρ : Rho} {M : Store} {e : Option Er1} {r : Res D} (h : r = resE e M) (h0 : R ρ) : Rai R M e (zwith r ρ fun _ M1 => some (.nx ρ, M1)) := by
  subst h
  cases e with
  | none => exact ⟨ρ, rfl, h0⟩
  | some d => exact ⟨ρ, rfl⟩
def Walks (M : Store) (w : Wk) (ds : List D) : Prop := w = .items ds ∨ ∃ n, w = .hot n ∧ M[n]? = some (.lst ds)
theorem lcH_map {α : Type} {f : D → Store → Res (Option D)} {g k : α → D} {M : Store} {n : Nat} {l : List α} (hM : M[n]? = some (.lst (l.map g))) (h : ∀ a ∈ l, f (g a) M = .ok (some (k a)) M) (hb : l.length ≤ big) :
    ∀ (m i w : Nat), i + m = l.length → m < w → lcH n f w i ((l.take i).map k) M = .ok (l.map k) M
  | 0, i, 0, _, hw => by omega
  | 0, i, w + 1, e, _ => by
    have e : i = l.length := by omega
    subst e
    simp [lcH, hM]
  | m + 1, i, 0, _, hw => by omega
  | m + 1, i, w + 1, e, hw => by
    have hi : i < l.length := by omega
    have hg : (l.map g)[i]? = some (g l[i]) := by simp [hi]
    rw [lcH]
    simp only [hM, hg, h _ (List.getElem_mem hi), bind_ok]
    rw [if_pos (by simp; omega)]
    have := lcH_map hM h hb m (i + 1) w (by omega) (by omega)
    rw [List.take_succ_eq_append_getElem hi, List.map_append] at this
    simpa using this
theorem lcW_map {α : Type} {f : D → Store → Res (Option D)} {g k : α → D} {M : Store} {l : List α} {w : Wk} {W : Nat} (hw : Walks M w (l.map g)) (h : ∀ a ∈ l, f (g a) M = .ok (some (k a)) M) (hb : l.length ≤ big) (hW : l.length < W) : lcW f W w M = .ok (l.map k) M := by
  rcases hw with rfl | ⟨n, rfl, e⟩
  · rw [lcW_items, lcA_map h (by simpa using hb)]; simp
  · rw [lcW_hot]
    simpa using lcH_map e h hb l.length 0 W (by omega) hW
/-- a loop over a list of the store that stays -/
theorem forH_inv {α : Type} {l : List α} {g : α → D} {f : D → Rho → Store → Out} {j W : Nat} (I : Nat → Rho → Store → Prop) {ρ : Rho} {M : Store} (hj : ∀ i ρ M, I i ρ M → M[j]? = some (.lst (l.map g))) (hW : l.length < W) (h0 : I 0 ρ M) (h : ∀ i a ρ M, l[i]? = some a → I i ρ M → ∃ ρ' M', f (g a) ρ M = some (.nx ρ', M') ∧ I (i + 1) ρ' M') :
    ∃ ρ' M', forH j f W 0 ρ M = some (.nx ρ', M') ∧ I l.length ρ' M' := by
  have key : ∀ m k w ρ M, k + m = l.length → m < w → I k ρ M → ∃ ρ' M', forH j f w k ρ M = some (.nx ρ', M') ∧ I l.length ρ' M' := by
    intro m
    induction m with
    | zero =>
      intro k w ρ M hk hw i
      obtain ⟨w, rfl⟩ : ∃ v, w = v + 1 := ⟨w - 1, by omega⟩
      have hk : k = l.length := by omega
      subst hk
      exact ⟨ρ, M, by simp [forH, hj _ _ _ i], i⟩
    | succ m ih =>
      intro k w ρ M hk hw i
      obtain ⟨w, rfl⟩ : ∃ v, w = v + 1 := ⟨w - 1, by omega⟩
      have hlt : k < l.length := by omega
      obtain ⟨ρ', M', e, i'⟩ := h k l[k] ρ M (by simp [hlt]) i
      have hg : (l.map g)[k]? = some (g l[k]) := by simp [hlt]
      rw [forH]
      simp only [hj _ _ _ i, hg, e, turn_nx]
      exact ih (k + 1) w ρ' M' (by omega) (by omega) i'
  exact key l.length 0 W ρ M (by omega) hW h0
theorem range_mem {k i : Nat} (h : i ∈ List.range k) : i < k := List.mem_range.mp h
end G

/-! A29 -/
set_option maxRecDepth 100000
set_option maxHeartbeats 4000000
namespace K29
open G
variable {W : Nat}
variable {n : Nat} {M : Store}
abbrev il (l : List Int) : List D := l.map D.int
theorem er0 : P.ers[0]? = some ⟨"TooMany", [1], [0]⟩ := rfl
theorem er1 : P.ers[1]? = some ⟨"BadPiece", [0], [1]⟩ := rfl

theorem il_get {l : List Int} {i : Nat} {a : Int} (h : l[i]? = some a) : L2.atI (il l) (i : Int) = some (.int a) := atI_nat (by simp [h])
theorem is_whole_int (v : Int) : callF P W (n + 1) 1 [.int v] M = .ok (.bl true) M := by
  rw [callF_eq (k := f1) rfl rfl]
  simp [f1, b1]
theorem isTy_bl {t : Ty} {b : Bool} : isTy M t (.bl b) = some (match t with | .bool => true | .int => true | _ => false) := rfl
theorem is_whole_bl (b : Bool) : callF P W (n + 1) 1 [.bl b] M = .ok (.bl false) M := by
  rw [callF_eq (k := f1) rfl rfl]
  simp [f1, b1, isTy_bl]
def many (x : PySem.Str) (c : Prop) [Decidable c] : Option Er1 := if c then some (0, [.str x]) else none
theorem check_most (v m : Int) (x : PySem.Str) : callF P W (n + 2) 2 [.int v, .int m, .str x] M = resE (many x (m < v)) M := by
  rw [callF_eq (k := f2) rfl rfl]
  unfold many
  simp [f2, b2, is_whole_int]
  by_cases h : m < v
  · simp [h, er0]
  · simp [h]
theorem check_most_bl (v : Bool) (m : Int) (x : PySem.Str) : callF P W (n + 2) 2 [.bl v, .int m, .str x] M = resE none M := by
  rw [callF_eq (k := f2) rfl rfl]
  simp [f2, b2, is_whole_bl]
/-- the purse as it lies in the store -/
abbrev pu (p : Int × Int × Int) : Ob := .lst [.int p.1, .int p.2.1, .int p.2.2]
theorem at0 {α : Type} {a : α} {r : List α} : L2.atI (a :: r) 0 = some a := atI_nat (i := 0) rfl
theorem at1 {α : Type} {a b : α} {r : List α} : L2.atI (a :: b :: r) 1 = some b := atI_nat (i := 1) rfl
theorem at2 {α : Type} {a b c : α} {r : List α} : L2.atI (a :: b :: c :: r) 2 = some c := atI_nat (i := 2) rfl
theorem ix0 : L2.ixN 3 0 = some 0 := rfl
theorem ix1 : L2.ixN 3 1 = some 1 := rfl
theorem ix2 : L2.ixN 3 2 = some 2 := rfl
theorem draw (p : Int × Int × Int) (m : Int) (hm : 0 < m) (hm2 : m < 1073741824) (R : Store) : ∃ v p', 0 ≤ v ∧ v < m ∧ callF P W (n + 1) 14 [.ptr 0, .int m] (pu p :: R) = .ok (.int v) (pu p' :: R) := by
  obtain ⟨a, b, c⟩ := p
  rw [callF_eq (k := f14) rfl rfl]
  by_cases h : 0 < a
  · refine ⟨a % m, (a / m, b, c), Int.emod_nonneg _ (by omega), Int.emod_lt_of_pos _ hm, ?_⟩
    simp [f14, b14, h, at0, at1, at2, ix0, ix1, ix2, mod_ii hm, fdiv_ii ⟨hm, hm2⟩, finish_rt_same]
  · refine ⟨((b * 48271 + (c + 1) * 69621) % 2147483647 * 16807 + (c + 1) * 7919) % 2147483629 / 8 % m, (a, (b * 48271 + (c + 1) * 69621) % 2147483647, c + 1), Int.emod_nonneg _ (by omega), Int.emod_lt_of_pos _ hm, ?_⟩
    simp [f14, b14, h, at0, at1, at2, ix0, ix1, ix2, mod_ii hm, mod_ii, fdiv_ii, mul_ii, finish_rt_same]
theorem drawN (p : Int × Int × Int) (m : Nat) (hm : 0 < m) (hm2 : m < 1073741824) (R : Store) : ∃ (v : Nat) (p' : Int × Int × Int), v < m ∧ callF P W (n + 1) 14 [.ptr 0, .int m] (pu p :: R) = .ok (.int v) (pu p' :: R) := by
  obtain ⟨v, p', h0, h1, e⟩ := draw (W := W) (n := n) p m (by omega) (by omega) R
  obtain ⟨k, rfl⟩ := Int.eq_ofNat_of_zero_le h0
  exact ⟨k, p', by omega, e⟩
theorem finish_rt_keep {tr : Bool} {M M' : Store} {d : D} (h : underD M.length d = false) : finish tr M (some (.rt d, M')) = .ok d M' := by
  simp only [finish]
  rw [if_neg]
  rintro ⟨_, h2, _⟩
  rw [h] at h2; cases h2
theorem purse (ns : List Int) : ∃ p, callF P W (n + 1) 13 [.scr ns, .int 0] [] = .ok (.ptr 0) [pu p] := by
  rw [callF_eq (k := f13) rfl rfl]
  cases ns with
  | nil => exact ⟨(0, 12345, 0), by simp [f13, b13, mul_ii, mod_ii, cutd, HT.sIx, lcA, finish_rt_keep, underD, big, PySem.sizeLine]⟩
  | cons x r =>
    have h0 : L2.atI (D.int x :: r.map D.int) 0 = some (.int x) := by simpa using atI_nat (xs := D.int x :: r.map D.int) (i := 0) (v := .int x) rfl
    have h1 : (0 : Int) < (r.length : Int) + 1 := by omega
    by_cases h : x < 0
    · by_cases hz : 1000000000000000000 ≤ 2 * -x + 1
      · exact ⟨(2 * -x + 1, (2 * -x + 1 + 12345) % 2147483629, 0), by simp [f13, b13, mul_ii, mod_ii, h0, h1, h, hz, finish_rt_keep, underD, big, PySem.sizeLine]⟩
      · exact ⟨(0, (2 * -x + 1 + 12345) % 2147483629, 0), by simp [f13, b13, mul_ii, mod_ii, h0, h1, h, hz, finish_rt_keep, underD, big, PySem.sizeLine]⟩
    · by_cases hz : 1000000000000000000 ≤ 2 * x
      · exact ⟨(2 * x, (2 * x + 12345) % 2147483629, 0), by simp [f13, b13, mul_ii, mod_ii, h0, h1, h, hz, finish_rt_keep, underD, big, PySem.sizeLine]⟩
      · exact ⟨(0, (2 * x + 12345) % 2147483629, 0), by simp [f13, b13, mul_ii, mod_ii, h0, h1, h, hz, finish_rt_keep, underD, big, PySem.sizeLine]⟩
theorem st0 {R r : Store} {a : Ob} : (R ++ a :: r)[R.length]? = some a := by simp
theorem st1 {R r : Store} {a b : Ob} : (R ++ a :: b :: r)[R.length + 1]? = some b := by simp [List.getElem?_append]
theorem se0 {R r : Store} {a x : Ob} : (R ++ a :: r).set R.length x = R ++ x :: r := by simp
theorem se1 {R r : Store} {a b x : Ob} : (R ++ a :: b :: r).set (R.length + 1) x = R ++ a :: x :: r := by simp
theorem underDs_iff {k : Nat} : ∀ {xs : List D}, underDs k xs = true ↔ ∀ x ∈ xs, underD k x = true
  | [] => by simp [underDs]
  | x :: xs => by simp [underDs, underDs_iff (xs := xs)]
theorem underDs_perm {k : Nat} {xs ys : List D} (h : xs.Perm ys) (hx : underDs k xs = true) : underDs k ys = true := by
  rw [underDs_iff] at hx ⊢
  exact fun x hm => hx x (h.mem_iff.mpr hm)
theorem erase_perm : ∀ (l : List D) (i : Nat) {h : i < l.length}, ([l[i]] ++ l.eraseIdx i).Perm l
  | [], i, h => by simp at h
  | x :: l, 0, _ => by simp
  | x :: l, i + 1, h => by
    simp only [List.getElem_cons_succ, List.eraseIdx_cons_succ, List.singleton_append]
    exact (List.Perm.swap _ _ _).trans (.cons x (erase_perm l i (h := by simpa using h)))
/-- a list, plain or in the store -/
def LsD (M : Store) (x : D) (xs : List D) : Prop := x = .lst xs ∨ ∃ k, x = .ptr k ∧ M[k]? = some (.lst xs)
theorem LsD.seq {x : D} {xs : List D} (h : LsD M x xs) : seqOf M x = some xs := by
  rcases h with rfl | ⟨k, rfl, e⟩
  · rfl
  · simp [e]
theorem LsD.app {x : D} {xs : List D} {N : Store} (h : LsD M x xs) : LsD (M ++ N) x xs := by
  rcases h with rfl | ⟨k, rfl, e⟩
  · exact .inl rfl
  · exact .inr ⟨k, rfl, by rw [List.getElem?_append_left (List.getElem?_eq_some_iff.mp e).1, e]⟩
theorem law_mix (p : Int × Int × Int) (x : D) (xs : List D) (R : Store) (hh : LsD (pu p :: R) x xs) (hx : xs.length ≤ 100000) (hR : (R.all (underO (R.length + 1))) = true) (hu : underDs (R.length + 1) xs = true) : ∃ ys p', ys.Perm xs ∧ callF P W (n + 2) 15 [.ptr 0, x] (pu p :: R) = .ok (.lst ys) (pu p' :: R) := by
  rw [callF_eq (k := f15) rfl rfl]
  have key := forL_inv (l := List.range xs.length) (g := fun (i : Nat) => D.int (i : Int)) (f := foT P W (callF P W (n + 1)) (.n 4) b15_1) (fun i ρ M => ∃ p l m a, ρ = [some (.ptr 0), some x, some (.ptr (R.length + 1)), some (.ptr (R.length + 1 + 1)), a] ∧ M = pu p :: (R ++ [.lst l, .lst m]) ∧ (m ++ l).Perm xs ∧ l.length + i = xs.length) (ρ := [some (.ptr 0), some x, some (.ptr (R.length + 1)), some (.ptr (R.length + 1 + 1)), none]) (M := pu p :: (R ++ [.lst xs, .lst []])) ⟨p, xs, [], none, rfl, rfl, by simp, by simp⟩ ?_
  · have h1 := hh.seq
    have h2 : seqOf (pu p :: (R ++ [.lst xs, .lst []])) x = some xs := by
      have := (hh.app (N := [.lst xs, .lst []])).seq
      simpa using this
    simp [f15, b15, h1, h2, rngI_nat (show xs.length ≤ 16777216 by omega), big, PySem.sizeLine]
    obtain ⟨ρ', M', e, p', l, m, a, rfl, rfl, hp, hl⟩ := key
    simp only [e, zthen_nx]
    have hl0 : l = [] := by simpa using hl
    subst hl0
    refine ⟨m, by simpa using hp, p'.1, p'.2.1, p'.2.2, ?_⟩
    simp [st1, se1]
    refine finish_rt_cut2 (N := pu p' :: R) (R := [.lst [], .dead]) (by simp) (by simp) ?_ ?_
    · simp only [underD, List.length_cons]
      exact underDs_perm (by simpa using hp.symm) hu
    · rw [List.all_cons]
      simp only [List.length_cons, hR, Bool.and_true]
      simp [underO, underDs, underD]
  · rintro i a ρ M hi ⟨p, l, m, a, rfl, rfl, hp, hl⟩
    have hi := (range_get hi).1
    obtain ⟨v, p1, h0, h1, e⟩ := draw (W := W) (n := n) p l.length (by omega) (by omega) (R ++ [.lst l, .lst m])
    have hv : l[v.toNat]? = some (l[v.toNat]'(by omega)) := by simp
    have hm : m.length < big := by
      have := hp.length_eq
      simp only [List.length_append] at this
      simp only [big, PySem.sizeLine]; omega
    refine ⟨_, _, by simp [foT_app, b15_1, st0, st1, e, popI_ok h0 (by omega) hv, hm]; exact ⟨rfl, rfl⟩, ?_⟩
    refine ⟨p1, l.eraseIdx v.toNat, m ++ [l[v.toNat]'(by omega)], _, rfl, by simp, ?_, ?_⟩
    · refine List.Perm.trans ?_ hp
      rw [List.append_assoc]
      refine List.Perm.append_left m ?_
      exact erase_perm _ _
    · rw [List.length_eraseIdx]; split <;> omega
end K29

/-! B29 -/
set_option maxRecDepth 100000
set_option maxHeartbeats 4000000
namespace K29
open G
variable {W : Nat}
variable {n : Nat} {M : Store}
/-- a piece: its skills, its due -/
structure Pc where
  x : List Int
  d : Int
  deriving DecidableEq
def Pc.D (p : Pc) : D := .tup [.tup (il p.x), .int p.d]
abbrev pl (l : List Pc) : List D := l.map Pc.D
theorem pl_get {l : List Pc} {i : Nat} {a : Pc} (h : l[i]? = some a) : L2.atI (pl l) (i : Int) = some (.tup [.tup (il a.x), .int a.d]) := atI_nat (by simp [h, Pc.D])
theorem piece_rows (lot : List Pc) (hl : lot.length ≤ 100000) : callF P W (n + 1) 3 [.lst (pl lot)] M = .ok (.lst (pl lot)) M := by
  rw [callF_eq (k := f3) rfl rfl]
  have hc := lcA_map (l := lot) (acc := []) (f := lcT P W (callF P W n) [some (.lst (pl lot)), none] (.n 1) .nil (.tup (.cons (.bi .tuple (.cons (.ix (.v 1) (.int 0)) .nil)) (.cons (.ix (.v 1) (.int 1)) .nil)))) (g := Pc.D) (k := Pc.D) (M := M) (fun j _ => by
    simp [lcT_app, Pc.D, at0, at1, gslots, wipeR, big, PySem.sizeLine]) (by simp [big, PySem.sizeLine]; omega)
  simp only [List.nil_append] at hc
  simp [f3, b3, hc]
def skpE (v : Int) : Option Er1 := many "skills" (8 < v)
def pskE (p : Pc) : Option Er1 := p.x.findSome? skpE
def belE (p : Pc) : Option Er1 := many "bells" (30 < p.d)
def lenE (l : List Pc) : Option Er1 := many "drops" (10 < (l.length : Int))
abbrev ld (lots : List (List Pc)) : List D := lots.map fun l => D.lst (pl l)
def dropE (lots : List (List Pc)) : Option Er1 :=
  (lots.findSome? lenE).or <| (lots.findSome? fun l => l.findSome? pskE).or (lots.findSome? fun l => l.findSome? belE)
def R3 (lots : List (List Pc)) (ρ : Rho) : Prop := ∃ a b c d, ρ = [some (.lst (ld lots)), some (.lst []), a, b, c, d]
theorem pow_9 : binop .pow (.int 10) (.int 9) M = .ok (.int 1000000000) M := by rw [pow_ii (by decide)]; rfl
theorem eq_s1 {a b : PySem.Str} (ha : PySem.PyData.strOk a = true) (hb : PySem.PyData.strOk b = true) : cmpop .eq (.str a) (.str b) M = .ok (.bl (a == b)) M := by
  rw [eq_dd (by simp [G.top, okd, ha]) (by simp [G.top, okd, hb])]; simp [G.top, eqd]
theorem eq_t1 {a b : PySem.Str} (ha : PySem.PyData.strOk a = true) (hb : PySem.PyData.strOk b = true) : cmpop .eq (.tup [.str a]) (.tup [.str b]) M = .ok (.bl (a == b)) M := by
  rw [eq_dd (by simp [G.top, okd, ha]) (by simp [G.top, okd, hb])]; simp [G.top, eqd, eqds]
theorem big_le {k : Nat} (h : k ≤ 100000) : k ≤ big := by simp [big, PySem.sizeLine]; omega
@[simp] theorem big_1 : (1 ≤ big) = True := by simp [big, PySem.sizeLine]
@[simp] theorem big_0 : (0 ≤ big) = True := by simp
@[simp] theorem big_2 : (2 ≤ big) = True := by simp [big, PySem.sizeLine]
@[simp] theorem big_3 : (3 ≤ big) = True := by simp [big, PySem.sizeLine]
@[simp] theorem big_4 : (4 ≤ big) = True := by simp [big, PySem.sizeLine]
theorem Rai.one {f : D → Rho → Store → Out} {x : D} {R : Rho → Prop} {e : Option Er1} {ρ : Rho} {M : Store} (h0 : R ρ) (h : ∀ ρ, R ρ → Rai R M e (f x ρ M)) : Rai R M e (forL f [x] ρ M) := by
  have := h ρ h0
  rw [forL]
  cases e with
  | none => obtain ⟨ρ', e, r⟩ := this; rw [e, turn_nx]; exact ⟨ρ', rfl, r⟩
  | some d => obtain ⟨ρ', e⟩ := this; rw [e]; exact ⟨ρ', rfl⟩
theorem one (rows : List Pc) (e : Option Er1) : [rows].findSome? (fun _ => e) = e := by cases e <;> simp
theorem pc_D (p : Pc) : p.D = .tup [.tup (il p.x), .int p.d] := rfl
theorem Rai.skip {R : Rho → Prop} {ρ : Rho} {M : Store} (h : R ρ) : Rai R M none (some (.nx ρ, M)) := ⟨ρ, rfl, h⟩
theorem check_drops (lots : List (List Pc)) : callF P W (n + 3) 4 [.lst (ld lots), .lst []] M = resE (dropE lots) M := by
  rw [callF_eq (k := f4) rfl rfl]
  refine Rai.fin (R := R3 lots) ?_
  simp only [f4, b4, rSs_cons]
  have e0 : dropE lots = (none : Option Er1).or ((lots.findSome? lenE).or <| (lots.findSome? fun l => l.findSome? pskE).or <| (none : Option Er1).or <| (lots.findSome? fun l => l.findSome? belE).or none) := by simp [dropE]
  rw [e0]
  refine Rai.then (R := R3 lots) ?_ fun ρ h => Rai.then (R := R3 lots) ?_ fun ρ h => Rai.then (R := R3 lots) ?_ fun ρ h => Rai.then (R := R3 lots) ?_ fun ρ h => Rai.then (R := R3 lots) ?_ fun ρ h => Rai.last ?_
  · simp [forL]
    exact Rai.skip ⟨_, _, _, _, rfl⟩
  · obtain ⟨_, _, _, _, rfl⟩ := h
    simp
    refine Rai.loop ⟨_, _, _, _, rfl⟩ ?_
    rintro l hl ρ ⟨_, _, _, _, rfl⟩
    have e := check_most (W := W) (n := n) (M := M) l.length 10 "drops"
    simp [foT_app, b4_7, e]
    exact Rai.last (Rai.ex rfl ⟨_, _, _, _, rfl⟩)
  · obtain ⟨_, _, _, _, rfl⟩ := h
    simp
    refine Rai.loop ⟨_, _, _, _, rfl⟩ ?_
    rintro l hl ρ ⟨_, _, _, _, rfl⟩
    simp only [foT_app, b4_6, rSs_cons, rSs_nil, bindG_n, oO_some]
    refine Rai.last ?_
    simp
    refine Rai.loop ⟨_, _, _, _, rfl⟩ ?_
    rintro p hp ρ ⟨_, _, _, _, rfl⟩
    simp only [foT_app, b4_5, rSs_cons, rSs_nil, bindG_n, oO_some]
    refine Rai.last ?_
    simp [pc_D, at0]
    refine Rai.loop ⟨_, _, _, _, rfl⟩ ?_
    rintro v hv ρ ⟨_, _, _, _, rfl⟩
    have e := check_most (W := W) (n := n) (M := M) v 8 "skills"
    simp [foT_app, b4_4, e]
    exact Rai.last (Rai.ex rfl ⟨_, _, _, _, rfl⟩)
  · obtain ⟨_, _, _, _, rfl⟩ := h
    simp [forL]
    exact Rai.skip ⟨_, _, _, _, rfl⟩
  · obtain ⟨_, _, _, _, rfl⟩ := h
    simp
    refine Rai.loop ⟨_, _, _, _, rfl⟩ ?_
    rintro l hl ρ ⟨_, _, _, _, rfl⟩
    simp only [foT_app, b4_2, rSs_cons, rSs_nil, bindG_n, oO_some]
    refine Rai.last ?_
    simp
    refine Rai.loop ⟨_, _, _, _, rfl⟩ ?_
    rintro p hp ρ ⟨_, _, _, _, rfl⟩
    have e := check_most (W := W) (n := n) (M := M) p.d 30 "bells"
    simp [foT_app, b4_1, pc_D, at1, e]
    exact Rai.last (Rai.ex rfl ⟨_, _, _, _, rfl⟩)
  · obtain ⟨_, _, _, _, rfl⟩ := h
    have e := check_most (W := W) (n := n) (M := M) ((0 : Nat) : Int) 60 "letters"
    have e1 : many "letters" ((60 : Int) < ((0 : Nat) : Int)) = none := by unfold many; rw [if_neg (by omega)]
    rw [e1] at e
    simp at e
    simp [e]
    exact Rai.skip ⟨_, _, _, _, rfl⟩
end K29

/-! E29 -/
set_option maxRecDepth 100000
set_option maxHeartbeats 4000000
namespace K29
open G
variable {W : Nat}
variable {n : Nat} {M : Store}
theorem rngOf_nat {a b : Nat} : rngOf (a : Int) (b : Int) = (List.range (b - a)).map fun (k : Nat) => D.int ((a + k : Nat) : Int) := by
  unfold rngOf
  have : ((b : Int) - (a : Int)).toNat = b - a := by omega
  rw [this]
  simp
def rngIJ (x y : D) (M : Store) : Res Wk := match x, y with
  | .int i, .int j => if rngOk i j then .ok (.items (rngOf i j)) M else .stuck
  | _, _ => .stuck
@[simp] theorem rI_rng2 {P : Pg} {w : Nat} {cf : Nat → List D → Store → Res D} {ρ : Rho} {M : Store} {a b : Xp} : runI P w cf ρ (.rng2 a b) M = (runE P w cf ρ a M).zbind fun x M1 => (runE P w cf ρ b M1).zbind fun y M2 => rngIJ x y M2 := rfl
theorem rng_nat {a b : Nat} (ha : a ≤ 100000) (hb : b ≤ 100000) : rngIJ (.int (a : Int)) (.int (b : Int)) M = .ok (.items ((List.range (b - a)).map fun (k : Nat) => D.int ((a + k : Nat) : Int))) M := by
  have h : rngOk (a : Int) (b : Int) = true := by
    simp only [rngOk, Bool.and_eq_true, decide_eq_true_eq]
    omega
  show (if rngOk (a : Int) (b : Int) then _ else _) = _
  rw [if_pos h, rngOf_nat]
theorem Rai.one' {f : D → Rho → Store → Out} {x : D} {R : Rho → Prop} {e : Option Er1} {ρ : Rho} {M : Store} (h : Rai R M e (f x ρ M)) : Rai R M e (forL f [x] ρ M) := by
  rw [forL]
  cases e with
  | none => obtain ⟨ρ', e, r⟩ := h; rw [e, turn_nx]; exact ⟨ρ', rfl, r⟩
  | some d => obtain ⟨ρ', e⟩ := h; rw [e]; exact ⟨ρ', rfl⟩
/-- a loop that counts -/
theorem Rai.loopI {α : Type} {g : α → D} {f : D → Rho → Store → Out} {R : Nat → Rho → Prop} {bad : Nat → α → Option Er1} {M : Store} : ∀ {l : List α} {k : Nat} {ρ : Rho}, R k ρ →
    (∀ i a, l[i]? = some a → ∀ ρ, R (k + i) ρ → Rai (R (k + i + 1)) M (bad (k + i) a) (f (g a) ρ M)) → Rai (R (k + l.length)) M ((l.zipIdx k).findSome? fun p => bad p.2 p.1) (forL f (l.map g) ρ M)
  | [], k, ρ, h0, _ => ⟨ρ, rfl, h0⟩
  | a :: l, k, ρ, h0, h => by
    have h1 := h 0 a rfl ρ h0
    rw [List.zipIdx_cons, List.findSome?_cons, List.map_cons, forL]
    simp only [Nat.add_zero] at h1
    cases hb : bad k a with
    | some d =>
      rw [hb] at h1
      obtain ⟨ρ', e⟩ := h1
      rw [e]
      exact ⟨ρ', rfl⟩
    | none =>
      rw [hb] at h1
      obtain ⟨ρ', e, r⟩ := h1
      rw [e, turn_nx]
      have := Rai.loopI (l := l) (k := k + 1) r (fun i b hi ρ hr => by
        have := h (i + 1) b (by simpa using hi) ρ (by simpa [Nat.add_assoc, Nat.add_comm 1] using hr)
        simpa [Nat.add_assoc, Nat.add_comm 1] using this)
      simpa [Nat.add_assoc, Nat.add_comm 1] using this
def downE (i : Nat) (x : List Int) (k : Nat) : Option Er1 := if x[k]?.getD 0 ≥ x[1 + k]?.getD 0 then some (1, [.int i]) else none
def hd0 : List Int → Int | [] => 0 | a :: _ => a
def badE (i : Nat) (p : Pc) : Option Er1 := if p.x = [] ∨ hd0 p.x < 1 ∨ p.d < 1 then some (1, [.int i]) else (List.range (p.x.length - 1)).findSome? (downE i p.x)
def pieceE (lots : List (List Pc)) : Option Er1 := (lots.flatten.zipIdx).findSome? fun p => badE p.2 p.1
theorem Rai.cons {f : D → Rho → Store → Out} {x : D} {xs : List D} {R R' : Rho → Prop} {e e' : Option Er1} {ρ : Rho} {M : Store} (h : Rai R M e (f x ρ M)) (h' : ∀ ρ, R ρ → Rai R' M e' (forL f xs ρ M)) : Rai R' M (e.or e') (forL f (x :: xs) ρ M) := by
  rw [forL]
  cases e with
  | none => obtain ⟨ρ', e, r⟩ := h; rw [e, turn_nx]; exact h' ρ' r
  | some d => obtain ⟨ρ', e⟩ := h; rw [e]; exact ⟨ρ', rfl⟩
theorem eqd_il_nil {l : List Int} : eqd (.tup (il l)) (.tup []) = decide (l = []) := by
  cases l <;> simp [eqd, eqds]
theorem okd_il {k : Nat} {l : List Int} : (il l).all (okd k) = true := by
  simp [il, okd]
theorem eq_nil {l : List Int} : cmpop .eq (.tup (il l)) (.tup []) M = .ok (.bl (decide (l = []))) M := by
  rw [eq_dd (by simp only [G.top]; rw [okd]; exact okd_il) rfl]
  exact congrArg (fun b => Res.ok (D.bl b) M) eqd_il_nil
theorem lot_turn {lots0 : List (List Pc)} {rows : List Pc} {k : Nat} {ρ : Rho} (hx : ∀ p ∈ rows, p.x.length ≤ 100000) (h : ∃ b c d e, ρ = [some (.lst (ld lots0)), some (.int k), b, c, d, e]) :
    Rai (fun ρ => ∃ b c d e, ρ = [some (.lst (ld lots0)), some (.int ((k + rows.length : Nat) : Int)), b, c, d, e]) M ((rows.zipIdx k).findSome? fun p => badE p.2 p.1) (foT P W (callF P W n) (.n 2) b5_3 (.lst (pl rows)) ρ M) := by
  obtain ⟨b, c, d, e, rfl⟩ := h
  simp only [foT_app, b5_3, rSs_cons, rSs_nil, bindG_n, oO_some]
  refine Rai.last ?_
  simp
  have key := Rai.loopI (l := rows) (k := k) (g := Pc.D) (f := foT P W (callF P W n) (.t [3, 4]) b5_2) (M := M) (bad := badE) (R := fun i ρ => ∃ c d e, ρ = [some (.lst (ld lots0)), some (.int i), some (.lst (pl rows)), c, d, e]) (ρ := [some (.lst (ld lots0)), some (.int k), some (.lst (pl rows)), c, d, e]) ⟨_, _, _, rfl⟩ ?_
  · revert key
    generalize ((rows.zipIdx k).findSome? fun p => badE p.2 p.1) = q
    cases q with
    | none => rintro ⟨ρ, e, c, d, f, rfl⟩; exact ⟨_, e, _, _, _, _, rfl⟩
    | some d => exact id
  · rintro i p hp ρ ⟨c, d, e, rfl⟩
    have hm : p ∈ rows := List.mem_of_getElem? hp
    have hl := hx p hm
    generalize k + i = j
    simp only [foT_app, b5_2, rSs_cons, rSs_nil, pc_D, bindG_t]
    simp
    unfold badE
    have hq : cmpop .eq (.tup (il p.x)) (.tup []) M = .ok (.bl (decide (p.x = []))) M := eq_nil
    by_cases h1 : p.x = []
    · simp [hq, h1, er1]; exact ⟨_, rfl⟩
    have h0 : L2.atI (il p.x) 0 = some (.int (hd0 p.x)) := by
      cases hc : p.x with
      | nil => exact absurd hc h1
      | cons v r => exact at0
    by_cases h2 : hd0 p.x < 1
    · simp [hq, h1, h0, h2, er1]; exact ⟨_, rfl⟩
    by_cases h3 : p.d < 1
    · simp [hq, h1, h0, h2, h3, er1]; exact ⟨_, rfl⟩
    have hr := rng_nat (M := M) (a := 1) (b := p.x.length) (by omega) (by omega)
    simp [hq, h1, h0, h2, h3]
    simp only [Int.natCast_add, Int.natCast_one] at hr
    simp only [hr, zwith_ok, foW_items]
    have key2 := Rai.loop (l := List.range (p.x.length - 1)) (g := fun (k : Nat) => D.int (1 + (k : Int))) (f := foT P W (callF P W n) (.n 5) b5_1) (M := M) (bad := downE j p.x) (R := fun ρ => ∃ e, ρ = [some (.lst (ld lots0)), some (.int j), some (.lst (pl rows)), some (.tup (il p.x)), some (.int p.d), e]) (ρ := [some (.lst (ld lots0)), some (.int j), some (.lst (pl rows)), some (.tup (il p.x)), some (.int p.d), e]) ⟨_, rfl⟩ ?_
    · have := Rai.then (R' := fun ρ => ∃ c d e, ρ = [some (.lst (ld lots0)), some (.int (j + 1 : Nat)), some (.lst (pl rows)), c, d, e]) (e' := none) (k := fun ρ' M' => runSs P W (callF P W n) (.cons (.asg (.n 1) (.bin .add (.v 1) (.int 1))) .nil) ρ' M') key2 ?_
      · simpa using this
      · rintro ρ ⟨e, rfl⟩
        simp
        exact ⟨_, rfl, _, _, _, rfl⟩
    · rintro k hk ρ ⟨e, rfl⟩
      have hk := range_mem hk
      have g1 : p.x[k]? = some (p.x[k]'(by omega)) := by simp
      have g2 : p.x[1 + k]? = some (p.x[1 + k]'(by omega)) := by simp
      have a1 := il_get g1
      have a2 := il_get g2
      simp only [Int.natCast_add, Int.natCast_one] at a2
      have e1 : (1 + (k : Int)) - 1 = k := by omega
      unfold downE
      rw [g1, g2]
      simp [foT_app, b5_1, e1, a1, a2]
      by_cases h : p.x[1 + k]'(by omega) ≤ p.x[k]'(by omega)
      · simp [h, er1]; exact ⟨_, rfl⟩
      · simp [h]; exact ⟨_, rfl, _, rfl⟩
theorem lots_loop {lots0 : List (List Pc)} : ∀ {lots : List (List Pc)} {k : Nat} {ρ : Rho}, (∀ l ∈ lots, ∀ p ∈ l, p.x.length ≤ 100000) → (∃ b c d e, ρ = [some (.lst (ld lots0)), some (.int (k : Nat)), b, c, d, e]) →
    Rai (fun _ => True) M ((lots.flatten.zipIdx k).findSome? fun p => badE p.2 p.1) (forL (foT P W (callF P W n) (.n 2) b5_3) (ld lots) ρ M)
  | [], k, ρ, _, h => ⟨ρ, rfl, trivial⟩
  | l :: lots, k, ρ, hx, h => by
    rw [List.flatten_cons, List.zipIdx_append, List.findSome?_append]
    exact Rai.cons (lot_turn (hx l List.mem_cons_self) h) fun ρ hr => lots_loop (fun l' hl' => hx l' (List.mem_cons_of_mem _ hl')) hr
theorem check_pieces (lots : List (List Pc)) (hx : ∀ l ∈ lots, ∀ p ∈ l, p.x.length ≤ 100000) : callF P W (n + 1) 5 [.lst (ld lots)] M = resE (pieceE lots) M := by
  rw [callF_eq (k := f5) rfl rfl]
  refine Rai.fin (R := fun _ => True) ?_
  simp only [f5, b5, rSs_cons, rSs_nil]
  simp
  exact Rai.last (lots_loop (k := 0) hx ⟨_, _, _, _, rfl⟩)
end K29

/-! F29 -/
set_option maxRecDepth 100000
set_option maxHeartbeats 4000000
namespace K29
open G
variable {W : Nat}
variable {n : Nat} {M : Store}
abbrev nl (l : List Nat) : List D := l.map fun (k : Nat) => D.int (k : Int)
abbrev od (opts : List (List Nat)) : List D := opts.map fun l => D.lst (nl l)
def tkv (T : List (Nat × Nat)) : List (D × D) := T.map fun p => (D.int (p.1 : Int), D.int (p.2 : Int))
def skv (S : List Nat) : List (D × D) := S.map fun (r : Nat) => (D.int (r : Int), D.bl true)
def tg (T : List (Nat × Nat)) (r : Nat) : Option Nat := (T.find? fun p => p.1 == r).map (·.2)
def tput (T : List (Nat × Nat)) (r l : Nat) : List (Nat × Nat) := if T.any fun p => p.1 == r then T.map fun p => if p.1 == r then (p.1, l) else p else T ++ [(r, l)]
theorem eqd_nn (a b : Nat) : eqd (D.int (a : Int)) (D.int (b : Int)) = (a == b) := by
  show ((a : Int) == (b : Int)) = (a == b)
  by_cases h : a = b
  · subst h; rw [beq_self_eq_true, beq_self_eq_true]
  · have h2 : ¬ (a : Int) = (b : Int) := by omega
    rw [beq_eq_false_iff_ne.mpr h2, beq_eq_false_iff_ne.mpr h]
theorem dget_tkv (T : List (Nat × Nat)) (r : Nat) : dget (tkv T) (.int (r : Int)) = (tg T r).map fun l => D.int (l : Int) := by
  unfold dget tkv tg
  rw [List.find?_map]
  have : ((fun p : D × D => eqd p.1 (D.int (r : Int))) ∘ fun p : Nat × Nat => (D.int (p.1 : Int), D.int (p.2 : Int))) = fun p => p.1 == r := by
    funext p; simp [eqd_nn]
  rw [this]
  cases List.find? (fun p : Nat × Nat => p.1 == r) T <;> rfl
theorem dget_skv (S : List Nat) (r : Nat) : (dget (skv S) (.int (r : Int))).isSome = decide (r ∈ S) := by
  unfold dget skv
  rw [List.find?_map]
  have : ((fun p : D × D => eqd p.1 (D.int (r : Int))) ∘ fun a : Nat => (D.int (a : Int), D.bl true)) = fun p => p == r := by
    funext p; simp [eqd_nn]
  rw [this]
  by_cases h : r ∈ S
  · simp [h]
  · simp [h]
    intro x hx e; exact h (e ▸ hx)
theorem dput_tkv (T : List (Nat × Nat)) (r l : Nat) : dput (tkv T) (.int (r : Int)) (.int (l : Int)) = tkv (tput T r l) := by
  unfold dput tkv tput
  have e : (fun p : D × D => eqd p.1 (D.int (r : Int))) ∘ (fun p : Nat × Nat => (D.int (p.1 : Int), D.int (p.2 : Int))) = fun p => p.1 == r := by
    funext p; simp [eqd_nn]
  rw [List.any_map, e]
  split
  · rw [List.map_map, List.map_map]
    refine List.map_congr_left fun p _ => ?_
    simp only [Function.comp_def, eqd_nn]
    split <;> rfl
  · simp
theorem dput_skv (S : List Nat) (r : Nat) (h : r ∉ S) : dput (skv S) (.int (r : Int)) (.bl true) = skv (S ++ [r]) := by
  unfold dput skv
  have e : (fun p : D × D => eqd p.1 (D.int (r : Int))) ∘ (fun a : Nat => (D.int (a : Int), D.bl true)) = fun p => p == r := by
    funext p; simp [eqd_nn]
  rw [List.any_map, e, if_neg]
  · simp
  · simp [h]
theorem tg_put (T : List (Nat × Nat)) (r l x : Nat) : tg (tput T r l) x = if x = r then some l else tg T x := by
  unfold tput tg
  split
  · rename_i h
    induction T with
    | nil => cases h
    | cons p T ih =>
      rw [List.map_cons, List.find?_cons, List.find?_cons]
      by_cases hp : p.1 = r
      · by_cases hx : x = r
        · subst hx; simp [hp]
        · have : ¬ r = x := fun e => hx e.symm
          simp only [hp, beq_self_eq_true, if_true, hx, if_false]
          have hb : (r == x) = false := by simpa using this
          rw [hb]
          by_cases ha : T.any fun p => p.1 == r
          · have := ih ha
            simp only [hx, if_false] at this
            exact this
          · congr 1
            have : (T.map fun p => if (p.1 == r) = true then (p.1, l) else p) = T := by
              have h2 : ∀ p ∈ T, ¬ p.1 = r := fun p hp e => ha (List.any_eq_true.mpr ⟨p, hp, by simp [e]⟩)
              conv => rhs; rw [← List.map_id T]
              exact List.map_congr_left fun q hq => by simp [h2 q hq]
            rw [this]
      · have hb : (p.1 == r) = false := by simpa using hp
        simp only [hb, Bool.false_eq_true, if_false]
        by_cases hq : p.1 = x
        · have : ¬ x = r := fun e => hp (hq.trans e)
          simp [hq, this]
        · have hb2 : (p.1 == x) = false := by simpa using hq
          rw [hb2]
          exact ih (by simpa [hp] using h)
  · rename_i h
    have h2 : ∀ p ∈ T, ¬ p.1 = r := fun p hp e => h (List.any_eq_true.mpr ⟨p, hp, by simp [e]⟩)
    rw [List.find?_append]
    by_cases hx : x = r
    · subst hx
      have : T.find? (fun p => p.1 == x) = none := by simpa using h2
      rw [this]; simp
    · have : ¬ r = x := fun e => hx e.symm
      cases hT : T.find? (fun p => p.1 == x) <;> simp [hx, this]
theorem tg_mem {T : List (Nat × Nat)} {r l : Nat} (h : tg T r = some l) : (r, l) ∈ T := by
  unfold tg at h
  cases e : T.find? fun p => p.1 == r with
  | none => rw [e] at h; cases h
  | some p =>
    rw [e] at h
    have h1 := List.find?_some e
    have h2 := List.mem_of_find?_eq_some e
    simp at h h1
    obtain ⟨a, b⟩ := p
    simp at h h1
    subst h h1
    exact h2
theorem tg_of_mem {T : List (Nat × Nat)} {r l : Nat} (hn : (T.map (·.1)).Nodup) (h : (r, l) ∈ T) : tg T r = some l := by
  induction T with
  | nil => cases h
  | cons p T ih =>
    unfold tg
    rw [List.find?_cons]
    rw [List.map_cons, List.nodup_cons] at hn
    rcases List.mem_cons.mp h with rfl | h
    · simp
    · have : ¬ p.1 = r := fun e => hn.1 (by rw [e]; exact List.mem_map_of_mem (f := (·.1)) h)
      have hb : (p.1 == r) = false := by simpa using this
      rw [hb]
      exact ih hn.2 h
theorem keys_put (T : List (Nat × Nat)) (r l : Nat) : (tput T r l).map (·.1) = if r ∈ T.map (·.1) then T.map (·.1) else T.map (·.1) ++ [r] := by
  unfold tput
  by_cases h : r ∈ T.map (·.1)
  · have : (T.any fun p => p.1 == r) = true := by
      obtain ⟨p, hp, e⟩ := List.mem_map.mp h
      exact List.any_eq_true.mpr ⟨p, hp, by simp [e]⟩
    rw [if_pos this, if_pos h, List.map_map]
    refine List.map_congr_left fun p _ => ?_
    simp only [Function.comp_def]; split <;> rfl
  · have : ¬ (T.any fun p => p.1 == r) = true := by
      rintro ha
      obtain ⟨p, hp, e⟩ := List.any_eq_true.mp ha
      exact h (List.mem_map.mpr ⟨p, hp, by simpa using e⟩)
    rw [if_neg this, if_neg h]; simp
/-- rows without twins, of small numbers -/
def Ok (B : Nat) (S : List Nat) : Prop := S.Nodup ∧ ∀ r ∈ S, r < B
theorem Ok.len {B : Nat} {S : List Nat} (h : Ok B S) : S.length ≤ B := by
  have := List.Nodup.length_le_of_subset h.1 (l₂ := List.range B) fun r hr => List.mem_range.mpr (h.2 r hr)
  simpa using this
theorem Ok.add {B : Nat} {S : List Nat} {r : Nat} (h : Ok B S) (hr : r < B) (hn : r ∉ S) : Ok B (S ++ [r]) := by
  refine ⟨?_, fun x hx => ?_⟩
  · rw [List.nodup_append]
    refine ⟨h.1, by simp, ?_⟩
    intro a ha b hb
    simp at hb; subst hb
    exact fun e => hn (e ▸ ha)
  · rcases List.mem_append.mp hx with hx | hx
    · exact h.2 x hx
    · simp at hx; omega
theorem Ok.put {B : Nat} {T : List (Nat × Nat)} {r l : Nat} (h : Ok B (T.map (·.1))) (hr : r < B) : Ok B ((tput T r l).map (·.1)) := by
  rw [keys_put]
  split
  · exact h
  · exact h.add hr ‹_›
variable (opts : List (List Nat))
def Edge (T : List (Nat × Nat)) : Prop := ∀ r l, tg T r = some l → ∃ o, opts[l]? = some o ∧ r ∈ o
def Inj (T : List (Nat × Nat)) (S : List Nat) : Prop := ∀ r r' l, r ∉ S → r' ∉ S → tg T r = some l → tg T r' = some l → r = r'
def Free (T : List (Nat × Nat)) (S : List Nat) (l : Nat) : Prop := ∀ r, r ∉ S → tg T r ≠ some l
def Suc (T : List (Nat × Nat)) (S : List Nat) (l : Nat) (T' : List (Nat × Nat)) : Prop :=
  (∀ r ∈ S, tg T' r = tg T r) ∧ Inj T' S ∧ (∀ x, (∃ r, r ∉ S ∧ tg T' r = some x) ↔ (x = l ∨ ∃ r, r ∉ S ∧ tg T r = some x)) ∧ Edge opts T'
def Shut (T : List (Nat × Nat)) (S S' : List Nat) : Prop := ∀ r ∈ S', r ∉ S → ∃ l o, tg T r = some l ∧ opts[l]? = some o ∧ ∀ q ∈ o, q ∈ S'
variable {opts}
theorem suc_step {T T2 : List (Nat × Nat)} {S S1 : List Nat} {l r : Nat} {o : List Nat} (hS : ∀ x ∈ S, x ∈ S1) (hr : r ∉ S1) (ho : opts[l]? = some o) (hro : r ∈ o) (hE : Edge opts T2) (hI : Inj T S) (hF : Free T S l)
    (h1 : ∀ x ∈ S1 ++ [r], tg T2 x = tg T x) (h2 : Inj T2 (S1 ++ [r])) (h3 : ∀ x, (∃ q, q ∉ S1 ++ [r] ∧ tg T2 q = some x) ↔ (tg T r = some x ∨ ∃ q, q ∉ S1 ++ [r] ∧ tg T q = some x)) : Suc opts T S l (tput T2 r l) := by
  have mem : ∀ {x}, x ∈ S1 ++ [r] ↔ x ∈ S1 ∨ x = r := by intro x; simp
  have hrS : r ∉ S := fun h => hr (hS r h)
  have off : ∀ {q x}, q ∉ S → q ≠ r → tg T2 q = some x → (q ∈ S1 ∧ tg T q = some x) ∨ (q ∉ S1 ++ [r] ∧ (tg T r = some x ∨ ∃ q', q' ∉ S1 ++ [r] ∧ tg T q' = some x)) := by
    intro q x hq hn e
    by_cases hm : q ∈ S1
    · exact .inl ⟨hm, by rw [← h1 q (mem.mpr (.inl hm))]; exact e⟩
    · have hm' : q ∉ S1 ++ [r] := fun h => (mem.mp h).elim hm hn
      exact .inr ⟨hm', (h3 x).mp ⟨q, hm', e⟩⟩
  have nS : ∀ {q}, q ∉ S1 ++ [r] → q ∉ S := fun h h' => h (mem.mpr (.inl (hS _ h')))
  have noL : ∀ {q}, q ∉ S → q ≠ r → tg T2 q = some l → False := by
    intro q hq hn e
    rcases off hq hn e with ⟨_, e⟩ | ⟨_, e | ⟨q', hq', e⟩⟩
    · exact hF q hq e
    · exact hF r hrS e
    · exact hF q' (nS hq') e
  refine ⟨fun x hx => ?_, fun a b x ha hb ea eb => ?_, fun x => ⟨?_, ?_⟩, fun q x e => ?_⟩
  · have hn : x ≠ r := fun e => hrS (e ▸ hx)
    rw [tg_put, if_neg hn, h1 x (mem.mpr (.inl (hS x hx)))]
  · rw [tg_put] at ea eb
    by_cases har : a = r
    · by_cases hbr : b = r
      · rw [har, hbr]
      · rw [if_pos har] at ea; rw [if_neg hbr] at eb
        cases ea
        exact (noL hb hbr eb).elim
    · by_cases hbr : b = r
      · rw [if_neg har] at ea; rw [if_pos hbr] at eb
        cases eb
        exact (noL ha har ea).elim
      · rw [if_neg har] at ea; rw [if_neg hbr] at eb
        have cross : ∀ {a b}, a ∉ S → b ∉ S → a ∈ S1 → tg T a = some x → b ∉ S1 ++ [r] → (tg T r = some x ∨ ∃ q', q' ∉ S1 ++ [r] ∧ tg T q' = some x) → False := by
          intro a b ha hb hm e hbm h
          rcases h with h | ⟨q', hq', h⟩
          · exact hr (hI a r x ha hrS e h ▸ hm)
          · exact hq' (mem.mpr (.inl (hI a q' x ha (nS hq') e h ▸ hm)))
        rcases off ha har ea with ⟨a1, a2⟩ | ⟨a1, a2⟩ <;> rcases off hb hbr eb with ⟨b2, b3⟩ | ⟨b2, b3⟩
        · exact hI a b x ha hb a2 b3
        · exact (cross ha hb a1 a2 b2 b3).elim
        · exact (cross hb ha b2 b3 a1 a2).elim
        · exact h2 a b x a1 b2 ea eb
  · rintro ⟨q, hq, e⟩
    rw [tg_put] at e
    by_cases hqr : q = r
    · rw [if_pos hqr] at e; cases e; exact .inl rfl
    · rw [if_neg hqr] at e
      rcases off hq hqr e with ⟨_, e⟩ | ⟨_, e | ⟨q', hq', e⟩⟩
      · exact .inr ⟨q, hq, e⟩
      · exact .inr ⟨r, hrS, e⟩
      · exact .inr ⟨q', nS hq', e⟩
  · rintro (rfl | ⟨q, hq, e⟩)
    · exact ⟨r, hrS, by rw [tg_put, if_pos rfl]⟩
    · have fromR : (tg T r = some x ∨ ∃ q, q ∉ S1 ++ [r] ∧ tg T q = some x) → ∃ q, q ∉ S ∧ tg (tput T2 r l) q = some x := by
        intro h
        obtain ⟨q', hq', e'⟩ := (h3 x).mpr h
        have : q' ≠ r := fun e => hq' (mem.mpr (.inr e))
        exact ⟨q', nS hq', by rw [tg_put, if_neg this]; exact e'⟩
      by_cases hqr : q = r
      · subst hqr; exact fromR (.inl e)
      · by_cases hm : q ∈ S1
        · exact ⟨q, hq, by rw [tg_put, if_neg hqr, h1 q (mem.mpr (.inl hm))]; exact e⟩
        · exact fromR (.inr ⟨q, fun h => (mem.mp h).elim hm hqr, e⟩)
  · rw [tg_put] at e
    by_cases hqr : q = r
    · rw [if_pos hqr] at e; cases e; subst hqr; exact ⟨o, ho, hro⟩
    · rw [if_neg hqr] at e; exact hE q x e
end K29

/-! Q29 -/
set_option maxRecDepth 100000
set_option maxHeartbeats 4000000
namespace K29
open G
variable {W : Nat}
/-- the two dicts in the store -/
def St (M : Store) (t s : Nat) (T : List (Nat × Nat)) (S : List Nat) : Store := (M.set t (.dic false (tkv T))).set s (.dic false (skv S))
structure Wh (M : Store) (o t s : Nat) (opts : List (List Nat)) : Prop where
  o_ : M[o]? = some (.lst (od opts))
  t_ : t < M.length
  s_ : s < M.length
  ot : o ≠ t
  os : o ≠ s
  ts : t ≠ s
section
variable {M : Store} {o t s : Nat} {opts : List (List Nat)} {T : List (Nat × Nat)} {S : List Nat}
theorem St.len : (St M t s T S).length = M.length := by simp [St]
theorem St.go (h : Wh M o t s opts) : (St M t s T S)[o]? = some (.lst (od opts)) := by
  unfold St
  rw [List.getElem?_set_ne h.os.symm, List.getElem?_set_ne h.ot.symm, h.o_]
theorem St.gt (h : Wh M o t s opts) : (St M t s T S)[t]? = some (.dic false (tkv T)) := by
  unfold St
  rw [List.getElem?_set_ne h.ts.symm, List.getElem?_set_self h.t_]
theorem St.gs (h : Wh M o t s opts) : (St M t s T S)[s]? = some (.dic false (skv S)) := by
  unfold St
  rw [List.getElem?_set_self (by simpa using h.s_)]
theorem St.sett (h : Wh M o t s opts) {T'} : (St M t s T S).set t (.dic false (tkv T')) = St M t s T' S := by
  unfold St
  rw [List.set_comm _ _ h.ts.symm, List.set_set]
theorem St.sets {S'} : (St M t s T S).set s (.dic false (skv S')) = St M t s T S' := by
  unfold St
  rw [List.set_set]
/-- the keys that have not been seen -/
def cnt (T : List (Nat × Nat)) (S : List Nat) : Nat := (T.filter fun p => !decide (p.1 ∈ S)).length
theorem filter_len {α : Type} {p q : α → Bool} : ∀ {l : List α}, (∀ x ∈ l, p x = true → q x = true) → (l.filter p).length ≤ (l.filter q).length
  | [], _ => by simp
  | a :: l, h => by
    have := filter_len (l := l) fun x hx => h x (List.mem_cons_of_mem _ hx)
    have ha := h a List.mem_cons_self
    simp only [List.filter_cons]
    cases hp : p a
    · cases hq : q a <;> simp <;> omega
    · rw [ha hp]; simp; omega
theorem filter_lt {α : Type} {p q : α → Bool} {a : α} : ∀ {l : List α}, (∀ x ∈ l, p x = true → q x = true) → a ∈ l → p a = false → q a = true → (l.filter p).length < (l.filter q).length
  | [], _, h, _, _ => by cases h
  | b :: l, h, hm, hp, hq => by
    have hl := filter_len (l := l) fun x hx => h x (List.mem_cons_of_mem _ hx)
    have hb := h b List.mem_cons_self
    simp only [List.filter_cons]
    rcases List.mem_cons.mp hm with rfl | hm
    · simp [hp, hq]; omega
    · have := filter_lt (l := l) (fun x hx => h x (List.mem_cons_of_mem _ hx)) hm hp hq
      cases hp2 : p b
      · cases hq2 : q b <;> simp <;> omega
      · rw [hb hp2]; simp; omega
theorem cnt_mono {S' : List Nat} (h : ∀ x ∈ S, x ∈ S') : cnt T S' ≤ cnt T S := filter_len fun x _ hx => by
  simp only [Bool.not_eq_true', decide_eq_false_iff_not] at hx ⊢
  exact fun hm => hx (h _ hm)
theorem cnt_lt {S' : List Nat} {r l : Nat} (h : ∀ x ∈ S, x ∈ S') (hr : tg T r = some l) (h1 : r ∉ S) (h2 : r ∈ S') : cnt T S' < cnt T S :=
  filter_lt (a := (r, l)) (fun x _ hx => by
    simp only [Bool.not_eq_true', decide_eq_false_iff_not] at hx ⊢
    exact fun hm => hx (h _ hm)) (tg_mem hr) (by simpa using h2) (by simpa using h1)
def Fail (opts : List (List Nat)) (T : List (Nat × Nat)) (S : List Nat) (l : Nat) (S' : List Nat) : Prop := (∀ a, opts[l]? = some a → ∀ q ∈ a, q ∈ S') ∧ Shut opts T S S'
/-- what a call of place_left leaves -/
def After (B : Nat) (opts : List (List Nat)) (T : List (Nat × Nat)) (S : List Nat) (l : Nat) (b : Bool) (T' : List (Nat × Nat)) (S' : List Nat) : Prop :=
  Ok B S' ∧ Ok B (T'.map (·.1)) ∧ (∀ x ∈ S, x ∈ S') ∧ (b = true → Suc opts T S l T') ∧ (b = false → T' = T ∧ Fail opts T S l S')
theorem Shut.step {S1 S2 : List Nat} {r l2 : Nat} {a : List Nat} (h : Shut opts T S S1) (h2 : Shut opts T (S1 ++ [r]) S2) (hS : ∀ x ∈ S1 ++ [r], x ∈ S2) (hr : tg T r = some l2) (ha : opts[l2]? = some a) (hq : ∀ q ∈ a, q ∈ S2) : Shut opts T S S2 := by
  intro x hx hn
  by_cases h1 : x ∈ S1 ++ [r]
  · rcases List.mem_append.mp h1 with h1 | h1
    · obtain ⟨l, a', e1, e2, e3⟩ := h x h1 hn
      exact ⟨l, a', e1, e2, fun q hq => hS q (List.mem_append_left _ (e3 q hq))⟩
    · simp at h1; subst h1
      exact ⟨l2, a, hr, ha, hq⟩
  · exact h2 x hx h1
theorem place_left {B : Nat} (hB : B ≤ 100000) (h : Wh M o t s opts) (hopt : ∀ a ∈ opts, ∀ q ∈ a, q < B) (hlen : opts.length ≤ 100000) : ∀ (m l : Nat) (T : List (Nat × Nat)) (S : List Nat), cnt T S < m → l < opts.length → Ok B S → Ok B (T.map (·.1)) → Edge opts T → Inj T S → Free T S l →
    ∃ b T' S', callF P W m 8 [.ptr o, .int l, .ptr t, .ptr s] (St M t s T S) = .ok (.bl b) (St M t s T' S') ∧ After B opts T S l b T' S'
  | 0, _, _, _, hm, _, _, _, _, _, _ => by omega
  | m + 1, l, T, S, hm, hl, hS, hT, hE, hI, hF => by
    have ha : opts[l]? = some opts[l] := by simp [hl]
    have key : ∀ (rs : List Nat) (S1 : List Nat) (z : Option D), (∀ q ∈ rs, q ∈ opts[l]) → Ok B S1 → (∀ x ∈ S, x ∈ S1) → Shut opts T S S1 →
        (∃ T' S', forL (foT P W (callF P W m) (.n 4) b8_1) (nl rs) [some (.ptr o), some (.int l), some (.ptr t), some (.ptr s), z] (St M t s T S1) = some (.rt (.bl true), St M t s T' S') ∧ After B opts T S l true T' S') ∨
        (∃ z' S', forL (foT P W (callF P W m) (.n 4) b8_1) (nl rs) [some (.ptr o), some (.int l), some (.ptr t), some (.ptr s), z] (St M t s T S1) = some (.nx [some (.ptr o), some (.int l), some (.ptr t), some (.ptr s), z'], St M t s T S') ∧ Ok B S' ∧ (∀ x ∈ S1, x ∈ S') ∧ (∀ q ∈ rs, q ∈ S') ∧ Shut opts T S S') := by
      intro rs
      induction rs with
      | nil => intro S1 z _ h1 h2 h3; exact .inr ⟨z, S1, rfl, h1, fun _ h => h, fun q hq => (by cases hq), h3⟩
      | cons r rs ih =>
        intro S1 z hrs h1 h2 h3
        have hro := hrs r List.mem_cons_self
        have hrB : r < B := hopt _ (List.getElem_mem hl) r hro
        have es : cmpop .nin (.int (r : Int)) (.ptr s) (St M t s T S1) = .ok (.bl (!decide (r ∈ S1))) (St M t s T S1) := by
          rw [nin_dic (tk := false) (kvs := skv S1) (by rw [St.gs h]; rfl) (by rw [St.gs h]; rfl) rfl, dget_skv]
        have fc : ∀ ρ M', forL (foT P W (callF P W m) (.n 4) b8_1) (nl (r :: rs)) ρ M' = turn (foT P W (callF P W m) (.n 4) b8_1 (.int (r : Int)) ρ M') fun ρ' M' => forL (foT P W (callF P W m) (.n 4) b8_1) (nl rs) ρ' M' := fun _ _ => rfl
        rw [fc]
        by_cases hr : r ∈ S1
        · rcases ih S1 (some (.int r)) (fun q hq => hrs q (List.mem_cons_of_mem _ hq)) h1 h2 h3 with ⟨T', S', e, p⟩ | ⟨z', S', e, p1, p2, p3, p4⟩
          · exact .inl ⟨T', S', by simp [foT_app, b8_1, es, hr]; exact e, p⟩
          · refine .inr ⟨z', S', by simp [foT_app, b8_1, es, hr]; exact e, p1, p2, fun q hq => ?_, p4⟩
            rcases List.mem_cons.mp hq with rfl | hq
            · exact p2 _ hr
            · exact p3 q hq
        · have hbig : (skv S1).length < big := by have := h1.len; simp [skv, big, PySem.sizeLine]; omega
          have hbt : ∀ {T2 : List (Nat × Nat)}, Ok B (T2.map (·.1)) → (tkv T2).length < big := fun h => by have := h.len; simp at this; simp [tkv, big, PySem.sizeLine]; omega
          have hk1 : isKey false (D.int (r : Int)) = true := rfl
          have e1 : dput (skv S1) (.int (r : Int)) (.bl true) = skv (S1 ++ [r]) := dput_skv S1 r hr
          have et : cmpop .nin (.int (r : Int)) (.ptr t) (St M t s T (S1 ++ [r])) = .ok (.bl (!(tg T r).isSome)) (St M t s T (S1 ++ [r])) := by
            rw [nin_dic (tk := false) (kvs := tkv T) (by rw [St.gt h]; rfl) (by rw [St.gt h]; rfl) rfl, dget_tkv]
            cases tg T r <;> rfl
          have hok := h1.add hrB hr
          have hsub : ∀ x ∈ S, x ∈ S1 ++ [r] := fun x hx => List.mem_append_left _ (h2 x hx)
          have hfin : ∀ {T2 : List (Nat × Nat)} {S2 : List Nat}, Ok B (T2.map (·.1)) → (if isKey false (D.int (r : Int)) = true ∧ (tkv T2).length < big then some (Fl.nx [some (.ptr o), some (.int l), some (.ptr t), some (.ptr s), some (.int (r : Int))], (St M t s T2 S2).set t (.dic false (dput (tkv T2) (.int (r : Int)) (.int (l : Int))))) else none) = some (Fl.nx [some (.ptr o), some (.int l), some (.ptr t), some (.ptr s), some (.int (r : Int))], St M t s (tput T2 r l) S2) := by
            intro T2 S2 h2
            rw [if_pos ⟨rfl, hbt h2⟩, dput_tkv, St.sett h]
          cases htr : tg T r with
          | none =>
            refine .inl ⟨tput T r l, S1 ++ [r], ?_, hok, hT.put hrB, hsub, fun _ => ?_, fun h => (by cases h)⟩
            · have hf := hfin (S2 := S1 ++ [r]) hT
              simp [foT_app, b8_1, es, hr, St.gs h, hbig, hk1, e1, St.sets, et, htr, St.gt h]
              simp [hk1] at hf
              simp [hk1, hf]
            · refine suc_step h2 hr ha hro hE hI hF (fun x _ => rfl) (fun a b x ha hb => hI a b x (fun h => ha (hsub a h)) (fun h => hb (hsub b h))) fun x => ?_
              rw [htr]; simp
          | some l2 =>
            obtain ⟨a2, ha2, hra2⟩ := hE r l2 htr
            have hl2 : l2 < opts.length := (List.getElem?_eq_some_iff.mp ha2).1
            have hc : cnt T (S1 ++ [r]) < m := by
              have := cnt_lt (T := T) (S := S1) (S' := S1 ++ [r]) (fun x hx => List.mem_append_left _ hx) htr hr (by simp)
              have := cnt_mono (T := T) h2
              omega
            obtain ⟨b, T2, S2, e, q1, q2, q3, q4, q5⟩ := place_left hB h hopt hlen m l2 T (S1 ++ [r]) hc hl2 hok hT hE (fun a b x ha hb => hI a b x (fun h => ha (hsub a h)) (fun h => hb (hsub b h))) (fun q hq e => hq (by
              have : q = r := hI q r l2 (fun h => hq (hsub q h)) (fun h => hr (h2 r h)) e htr
              subst this; simp))
            have eix : ixd (St M t s T (S1 ++ [r])) (.ptr t) (.int (r : Int)) = .ok (.int (l2 : Int)) (St M t s T (S1 ++ [r])) := by
              simp [St.gt h, hk1, dget_tkv, htr]
            cases b with
            | true =>
              obtain ⟨s1, s2, s3, s4⟩ := q4 rfl
              refine .inl ⟨tput T2 r l, S2, ?_, q1, q2.put hrB, fun x hx => q3 x (hsub x hx), fun _ => ?_, fun h => (by cases h)⟩
              · have hf := hfin (S2 := S2) q2
                simp [foT_app, b8_1, es, hr, St.gs h, hbig, hk1, e1, St.sets, et, htr, St.gt h, dget_tkv, e]
                simp [hk1] at hf
                simp [hk1, hf]
              · refine suc_step h2 hr ha hro s4 hI hF s1 s2 fun x => ?_
                rw [s3 x, htr]
                constructor
                · rintro (rfl | h)
                  · exact .inl rfl
                  · exact .inr h
                · rintro (h | h)
                  · cases h; exact .inl rfl
                  · exact .inr h
            | false =>
              obtain ⟨rfl, f2, f3⟩ := q5 rfl
              have hsh : Shut opts T2 S S2 := h3.step f3 q3 htr ha2 (f2 a2 ha2)
              have hS2 : ∀ x ∈ S1, x ∈ S2 := fun x hx => q3 x (List.mem_append_left _ hx)
              have eb : foT P W (callF P W m) (.n 4) b8_1 (.int (r : Int)) [some (.ptr o), some (.int l), some (.ptr t), some (.ptr s), z] (St M t s T2 S1) = some (.nx [some (.ptr o), some (.int l), some (.ptr t), some (.ptr s), some (.int (r : Int))], St M t s T2 S2) := by
                simp [foT_app, b8_1, es, hr, St.gs h, hbig, hk1, e1, St.sets, et, htr, St.gt h, dget_tkv, e]
              rcases ih S2 (some (.int r)) (fun q hq => hrs q (List.mem_cons_of_mem _ hq)) q1 (fun x hx => hS2 x (h2 x hx)) hsh with ⟨T', S', e', p⟩ | ⟨z', S', e', p1, p2, p3, p4⟩
              · exact .inl ⟨T', S', by rw [eb, turn_nx]; exact e', p⟩
              · refine .inr ⟨z', S', by rw [eb, turn_nx]; exact e', p1, fun x hx => p2 x (hS2 x hx), fun q hq => ?_, p4⟩
                rcases List.mem_cons.mp hq with rfl | hq
                · exact p2 _ (q3 _ (by simp))
                · exact p3 q hq
    rw [callF_eq (k := f8) rfl rfl]
    have hg : L2.atI (od opts) (l : Int) = some (.lst (nl opts[l])) := atI_nat (by simp [hl])
    have ho := St.go (T := T) (S := S) h
    rcases key opts[l] S none (fun q hq => hq) hS (fun x hx => hx) (fun x hx hn => absurd hx hn) with ⟨T', S', e, p⟩ | ⟨z', S', e, p1, p2, p3, p4⟩
    · refine ⟨true, T', S', ?_, p⟩
      simp [f8, b8, ho, hg, e]
      exact finish_rt_same (by rw [St.len, St.len])
    · refine ⟨false, T, S', ?_, p1, hT, p2, fun h => (by cases h), fun _ => ⟨rfl, fun a ha' => ?_, p4⟩⟩
      · simp [f8, b8, ho, hg, e]
        exact finish_rt_same (by rw [St.len, St.len])
      · rw [ha] at ha'; cases ha'
        exact p3
end
end K29

/-! R29 -/
set_option maxRecDepth 100000
set_option maxHeartbeats 4000000
namespace K29
open G
variable {W : Nat}
/-- unlike items, one of each row -/
structure Sdr (opts : List (List Nat)) (ps : List Nat) : Prop where
  len : ps.length = opts.length
  nd : ps.Nodup
  mem : ∀ (i r : Nat) (a : List Nat), ps[i]? = some r → opts[i]? = some a → r ∈ a
def Dealt (opts : List (List Nat)) : Prop := ∃ ps, Sdr opts ps
section
variable {M : Store} {o : Nat} {opts : List (List Nat)} {T : List (Nat × Nat)} {S : List Nat} {B n : Nat}
theorem nodup_get {ps : List Nat} (h : ps.Nodup) {i j r : Nat} (h1 : ps[i]? = some r) (h2 : ps[j]? = some r) : i = j := by
  obtain ⟨a1, b2⟩ := List.getElem?_eq_some_iff.mp h1
  obtain ⟨a2, b3⟩ := List.getElem?_eq_some_iff.mp h2
  have hp := List.pairwise_iff_getElem.mp h
  rcases Nat.lt_trichotomy i j with hlt | he | hlt
  · exact absurd (b2.trans b3.symm) (hp i j a1 a2 hlt)
  · exact he
  · exact absurd (b3.trans b2.symm) (hp j i a2 a1 hlt)
theorem get_nodup {ps : List Nat} (h : ∀ i j r : Nat, ps[i]? = some r → ps[j]? = some r → i = j) : ps.Nodup := by
  refine List.pairwise_iff_getElem.mpr fun i j hi hj hlt e => ?_
  have := h i j ps[i] (by simp [hi]) (by rw [e]; simp [hj])
  omega
/-- rows that have too few together -/
def Viol (opts : List (List Nat)) : Prop := ∃ L S : List Nat, L.Nodup ∧ (∀ l ∈ L, l < opts.length) ∧ (∀ l ∈ L, ∀ a, opts[l]? = some a → ∀ q ∈ a, q ∈ S) ∧ S.length < L.length
/-- a way that fails shows rows with too few -/
theorem fail_viol {opts : List (List Nat)} {T : List (Nat × Nat)} {S : List Nat} {l : Nat} (hl : l < opts.length) (hI : Inj T []) (hF : Free T [] l) (hn : S.Nodup) (h : Fail opts T [] l S) : Viol opts := by
  let f : Nat → Nat := fun r => (tg T r).getD 0
  have hS : ∀ r ∈ S, ∃ l2 a, tg T r = some l2 ∧ opts[l2]? = some a ∧ (∀ q ∈ a, q ∈ S) ∧ f r = l2 := by
    intro r hr
    obtain ⟨l2, a, e1, e2, e3⟩ := h.2 r hr (by simp)
    exact ⟨l2, a, e1, e2, e3, by simp [f, e1]⟩
  refine ⟨l :: S.map f, S, ?_, ?_, ?_, by simp⟩
  · rw [List.nodup_cons]
    constructor
    · intro hm
      obtain ⟨r, hr, e⟩ := List.mem_map.mp hm
      obtain ⟨l2, a, e1, e2, e3, e4⟩ := hS r hr
      rw [e4] at e
      subst e
      exact hF r (by simp) e1
    · refine List.Pairwise.map f (R := fun a b => a ≠ b ∧ a ∈ S ∧ b ∈ S) ?_ ?_
      · rintro a b ⟨hab, ha, hb⟩ e
        obtain ⟨l2, _, e1, _, _, e4⟩ := hS a ha
        obtain ⟨l3, _, f1, _, _, f4⟩ := hS b hb
        have e : f a = f b := e
        rw [e4, f4] at e
        subst e
        exact hab (hI a b _ (by simp) (by simp) e1 f1)
      · rw [List.pairwise_iff_getElem]
        intro i j hi hj hlt
        exact ⟨List.pairwise_iff_getElem.mp hn i j hi hj hlt, List.getElem_mem hi, List.getElem_mem hj⟩
  · intro x hx
    rcases List.mem_cons.mp hx with rfl | hx
    · exact hl
    · obtain ⟨r, hr, rfl⟩ := List.mem_map.mp hx
      obtain ⟨l2, a, e1, e2, e3, e4⟩ := hS r hr
      rw [e4]; exact (List.getElem?_eq_some_iff.mp e2).1
  · intro x hx b hb q hq
    rcases List.mem_cons.mp hx with rfl | hx
    · exact h.1 b hb q hq
    · obtain ⟨r, hr, rfl⟩ := List.mem_map.mp hx
      obtain ⟨l2, a, e1, e2, e3, e4⟩ := hS r hr
      rw [e4] at hb
      rw [e2] at hb; cases hb
      exact e3 q hq
theorem st_app {G : Store} {T' : List (Nat × Nat)} {S' : List Nat} : St ((M ++ .dic false (tkv T) :: G) ++ [.dic false []]) M.length (M ++ .dic false (tkv T) :: G).length T' S' = (M ++ .dic false (tkv T') :: G) ++ [.dic false (skv S')] := by
  unfold St
  have e1 : (M ++ Ob.dic false (tkv T) :: G) ++ [.dic false []] = M ++ Ob.dic false (tkv T) :: (G ++ [.dic false []]) := by simp
  have e2 : (M ++ Ob.dic false (tkv T) :: G).length = (M ++ Ob.dic false (tkv T') :: G).length := by simp
  rw [e1, se0, e2]
  have e3 : M ++ Ob.dic false (tkv T') :: (G ++ [.dic false []]) = (M ++ Ob.dic false (tkv T') :: G) ++ [.dic false []] := by simp
  rw [e3, se0]
def stepP (ys : List Nat) (p : Nat × Nat) : List Nat := ys.set p.2 p.1
theorem fold_get {l r : Nat} : ∀ {T : List (Nat × Nat)} {ys : List Nat}, l < ys.length → (∀ p ∈ T, p.2 = l → p.1 = r) → ((∃ p ∈ T, p.2 = l) ∨ ys[l]? = some r) → (T.foldl stepP ys)[l]? = some r
  | [], ys, _, _, h => by
    rcases h with ⟨_, h, _⟩ | h
    · cases h
    · exact h
  | p :: T, ys, hl, h1, h2 => by
    rw [List.foldl_cons]
    refine fold_get (by simpa [stepP] using hl) (fun q hq => h1 q (List.mem_cons_of_mem _ hq)) ?_
    by_cases hp : p.2 = l
    · right
      have := h1 p List.mem_cons_self hp
      subst hp
      simp [stepP, hl, this]
    · rcases h2 with ⟨q, hq, e⟩ | h2
      · rcases List.mem_cons.mp hq with rfl | hq
        · exact absurd e hp
        · exact .inl ⟨q, hq, e⟩
      · right
        unfold stepP
        rw [List.getElem?_set_ne hp]; exact h2
theorem fold_len : ∀ {T : List (Nat × Nat)} {ys : List Nat}, (T.foldl stepP ys).length = ys.length
  | [], _ => rfl
  | p :: T, ys => by rw [List.foldl_cons, fold_len]; simp [stepP]
theorem underDs_nl {k : Nat} {l : List Nat} : underDs k (nl l) = true := by
  rw [underDs_iff]
  intro x hx
  obtain ⟨a, _, rfl⟩ := List.mem_map.mp hx
  rfl
theorem map_len (hk : (T.map (·.1)).Nodup) (hI : Inj T []) {k : Nat} (h : ∀ x, (∃ r, tg T r = some x) → x < k) : T.length ≤ k := by
  have hnd : (T.map (·.2)).Nodup := by
    rw [List.Nodup, List.pairwise_map, List.pairwise_iff_getElem]
    intro i j hi hj hlt e
    have h1 := tg_of_mem hk (r := T[i].1) (l := T[i].2) (List.getElem_mem hi)
    have h2 := tg_of_mem hk (r := T[j].1) (l := T[j].2) (List.getElem_mem hj)
    rw [← e] at h2
    have := hI _ _ _ (by simp) (by simp) h1 h2
    have hp := List.pairwise_map.mp hk
    exact List.pairwise_iff_getElem.mp hp i j hi hj hlt this
  have := List.Nodup.length_le_of_subset hnd (l₂ := List.range k) (by
    intro x hx
    obtain ⟨p, hp, rfl⟩ := List.mem_map.mp hx
    exact List.mem_range.mpr (h p.2 ⟨p.1, tg_of_mem hk hp⟩))
  simpa using this
theorem pair_up (hB : B ≤ 100000) (ho : M[o]? = some (.lst (od opts))) (hopt : ∀ a ∈ opts, ∀ q ∈ a, q < B) (hlen : opts.length ≤ 100000) (hn : opts.length < n) (hW : 100000 < W) :
    (callF P W (n + 1) 9 [.ptr o] M = .ok .non M ∧ Viol opts) ∨ ∃ ps, callF P W (n + 1) 9 [.ptr o] M = .ok (.lst (nl ps)) M ∧ Sdr opts ps := by
  have hoM : o < M.length := (List.getElem?_eq_some_iff.mp ho).1
  have ho' : ∀ R : Store, (M ++ R)[o]? = some (.lst (od opts)) := fun R => by rw [List.getElem?_append_left hoM, ho]
  have key : ∀ m k, k + m = opts.length → ∀ T G z, Ok B (T.map (·.1)) → Edge opts T → Inj T [] → (∀ x, (∃ r, tg T r = some x) ↔ x < k) →
      (∃ R, forL (foT P W (callF P W n) (.n 2) b9_2) ((List.range' k m).map fun (i : Nat) => D.int (i : Int)) [some (.ptr o), some (.ptr M.length), z, none, none, none] (M ++ .dic false (tkv T) :: G) = some (.rt .non, M ++ R) ∧ Viol opts) ∨
      (∃ T' G' z', forL (foT P W (callF P W n) (.n 2) b9_2) ((List.range' k m).map fun (i : Nat) => D.int (i : Int)) [some (.ptr o), some (.ptr M.length), z, none, none, none] (M ++ .dic false (tkv T) :: G) = some (.nx [some (.ptr o), some (.ptr M.length), z', none, none, none], M ++ .dic false (tkv T') :: G') ∧
        Ok B (T'.map (·.1)) ∧ Edge opts T' ∧ Inj T' [] ∧ ∀ x, (∃ r, tg T' r = some x) ↔ x < opts.length) := by
    intro m
    induction m with
    | zero =>
      intro k hk T G z h1 h2 h3 h4
      have : k = opts.length := by omega
      subst this
      exact .inr ⟨T, G, z, rfl, h1, h2, h3, h4⟩
    | succ m ih =>
      intro k hk T G z h1 h2 h3 h4
      have hkl : k < opts.length := by omega
      have hF : Free T [] k := fun r _ e => by have := (h4 k).mp ⟨r, e⟩; omega
      have hTl := map_len h1.1 h3 fun x hx => (h4 x).mp hx
      have hc : cnt T [] < n := by
        have : cnt T [] ≤ T.length := List.length_filter_le _ _
        omega
      have wh : Wh ((M ++ .dic false (tkv T) :: G) ++ [.dic false []]) o M.length (M ++ .dic false (tkv T) :: G).length opts := by
        refine ⟨?_, by simp, by simp, by omega, by simp; omega, by simp⟩
        rw [List.append_assoc]; exact ho' _
      obtain ⟨b, T', S', e, q1, q2, q3, q4, q5⟩ := place_left (W := W) hB wh hopt hlen n k T [] hc hkl ⟨List.nodup_nil, by simp⟩ h1 h2 h3 hF
      rw [st_app, st_app] at e
      have e0 : (M ++ .dic false (tkv T) :: G) ++ [.dic false (skv [])] = M ++ .dic false (tkv T) :: (G ++ [.dic false []]) := by simp [skv]
      have e9 : (M ++ .dic false (tkv T') :: G) ++ [.dic false (skv S')] = M ++ .dic false (tkv T') :: (G ++ [.dic false (skv S')]) := by simp
      rw [e0, e9] at e
      have el : (M ++ .dic false (tkv T) :: G).length = M.length + (G.length + 1) := by simp
      rw [el] at e
      rw [List.range'_succ, List.map_cons, forL]
      cases b with
      | false =>
        obtain ⟨rfl, f⟩ := q5 rfl
        left
        refine ⟨.dic false (tkv T') :: (G ++ [.dic false (skv S')]), ?_, fail_viol hkl h3 hF q1.1 f⟩
        simp [foT_app, b9_2, e]
      | true =>
        obtain ⟨s1, s2, s3, s4⟩ := q4 rfl
        have hx : ∀ x, (∃ r, tg T' r = some x) ↔ x < k + 1 := by
          intro x
          have := s3 x
          simp only [List.not_mem_nil, not_false_eq_true, true_and] at this
          rw [this, h4 x]; omega
        have eb : foT P W (callF P W n) (.n 2) b9_2 (.int (k : Int)) [some (.ptr o), some (.ptr M.length), z, none, none, none] (M ++ .dic false (tkv T) :: G) = some (.nx [some (.ptr o), some (.ptr M.length), some (.int (k : Int)), none, none, none], M ++ .dic false (tkv T') :: (G ++ [.dic false (skv S')])) := by
          simp [foT_app, b9_2, e]
        rw [eb, turn_nx]
        exact ih (k + 1) (by omega) T' _ _ q2 s4 s2 hx
  rw [callF_eq (k := f9) rfl rfl]
  have k0 := key opts.length 0 (by omega) [] [] none ⟨List.nodup_nil, by simp⟩ (fun r l h => by cases h) (fun _ _ _ _ _ h => by cases h) (fun x => ⟨fun ⟨r, h⟩ => (by cases h), fun h => (by omega)⟩)
  rw [← List.range_eq_range'] at k0
  simp only [tkv, List.map_nil] at k0
  rcases k0 with ⟨R, e, nd⟩ | ⟨T, G, z, e, h1, h2, h3, h4⟩
  · refine .inl ⟨?_, nd⟩
    simp [f9, b9, ho' [.dic false []], rngI_nat (show opts.length ≤ 16777216 by omega), e]
    exact finish_rt_cut rfl rfl
  · refine .inr ⟨T.foldl stepP (List.replicate opts.length 0), ?_, ?_⟩
    · have hz := lcH_map (n := o) (l := opts) (f := lcT P W (callF P W n) [some (.ptr o), some (.ptr M.length), z, none, none, none] (.n 5) .nil (.int 0)) (g := fun l => D.lst (nl l)) (k := fun _ => D.int 0) (M := M ++ .dic false (tkv T) :: G) (ho' _) (fun a _ => by simp [lcT_app, gslots, wipeR]) (by simp [big, PySem.sizeLine]; omega) opts.length 0 W (by omega) (by omega)
      have hw := walk_ptr (ho' (.dic false (tkv T) :: G))
      have hz2 : (opts.map fun _ => D.int 0) = nl (List.replicate opts.length 0) := by simp [List.map_const']
      have hlp := forL_rel (l := T) (g := fun p => D.int (p.1 : Int)) (f := foT P W (callF P W n) (.n 4) b9_1) (fun ys ρ M' => ys.length = opts.length ∧ M' = M ++ .fdic false (tkv T) :: (G ++ [.lst (nl ys)]) ∧ ∃ a, ρ = [some (.ptr o), some (.ptr M.length), z, some (.ptr (M.length + (G.length + 1))), a, none]) stepP (s := List.replicate opts.length 0) (ρ := [some (.ptr o), some (.ptr M.length), z, some (.ptr (M.length + (G.length + 1))), none, none]) (M := M ++ .fdic false (tkv T) :: (G ++ [.lst (nl (List.replicate opts.length 0))])) ⟨by simp, rfl, _, rfl⟩ ?_
      · obtain ⟨ρ', M', e2, hl, rfl, a, rfl⟩ := hlp
        have hk : ((tkv T).map (·.1)) = T.map fun p => D.int (p.1 : Int) := by simp [tkv]
        have hz3 := hz
        simp at hz3
        rw [show (List.map (fun p : Nat × Nat => (D.int (p.1 : Int), D.int (p.2 : Int))) T) = tkv T from rfl] at e
        simp [f9, b9, ho' [.dic false []], rngI_nat (show opts.length ≤ 16777216 by omega), e]
        simp only [hw, onO_some, zbind_ok, lcW_hot, hz3, hz2, newL_t, zwith_ok, zthen_nx]
        simp only [List.append_assoc, List.cons_append, List.length_append, List.length_cons, Nat.add_assoc] at *
        have hd : (M ++ (Ob.dic false (tkv T) :: (G ++ [Ob.lst (nl (List.replicate opts.length 0))])))[M.length]? = some (.dic false (tkv T)) := st0
        simp only [rSs_cons, rS_fod, List.getElem?_cons_succ, List.getElem?_cons_zero]
        rw [fodW_dic hd, se0, hk, e2]
        have h5 : (M ++ Ob.fdic false (tkv T) :: (G ++ [Ob.lst (nl (List.foldl stepP (List.replicate opts.length 0) T))]))[M.length]? = some (.fdic false (tkv T)) := st0
        simp only [unlk, h5, zthen_nx, se0]
        have h6 : (M ++ Ob.dic false (tkv T) :: (G ++ [Ob.lst (nl (List.foldl stepP (List.replicate opts.length 0) T))]))[M.length + (G.length + 1)]? = some (Ob.lst (nl (List.foldl stepP (List.replicate opts.length 0) T))) := by
          rw [List.getElem?_append_right (by omega)]; simp
        simp [h6]
        refine finish_rt_cut (R := Ob.dic false (tkv T) :: (G ++ [Ob.dead])) rfl ?_
        · simp only [underD]; exact underDs_nl
      · rintro ⟨r, l⟩ hp ys ρ M' ⟨hl, rfl, a, rfl⟩
        have hr := tg_of_mem h1.1 hp
        have hlt : l < opts.length := (h4 l).mp ⟨r, hr⟩
        have h5 : (M ++ Ob.fdic false (tkv T) :: (G ++ [Ob.lst (nl ys)]))[M.length]? = some (.fdic false (tkv T)) := st0
        have h6 : (M ++ Ob.fdic false (tkv T) :: (G ++ [Ob.lst (nl ys)]))[M.length + (G.length + 1)]? = some (Ob.lst (nl ys)) := by
          rw [List.getElem?_append_right (by omega)]; simp
        have h7 : L2.ixN ys.length (l : Int) = some l := by
          unfold L2.ixN
          rw [if_pos (by omega), if_pos (by omega)]; simp
        have hk1 : isKey false (D.int (r : Int)) = true := rfl
        refine ⟨_, _, by simp [foT_app, b9_1, h5, h6, hk1, dget_tkv, hr, h7]; exact ⟨rfl, rfl⟩, by simpa [stepP] using hl, ?_, _, rfl⟩
        simp [stepP, nl, List.map_set]
    · have hlt : ∀ l, l < opts.length → ∃ r, tg T r = some l ∧ (T.foldl stepP (List.replicate opts.length 0))[l]? = some r := by
        intro l hl
        obtain ⟨r, e⟩ := (h4 l).mpr hl
        refine ⟨r, e, fold_get (by simpa using hl) ?_ (.inl ⟨_, tg_mem e, rfl⟩)⟩
        rintro ⟨r', l'⟩ hp rfl
        exact h3 _ _ _ (by simp) (by simp) (tg_of_mem h1.1 hp) e
      have hget : ∀ l r : Nat, (T.foldl stepP (List.replicate opts.length 0))[l]? = some r → tg T r = some l := by
        intro l r e
        have hl : l < opts.length := by
          have := (List.getElem?_eq_some_iff.mp e).1
          rw [fold_len] at this; simpa using this
        obtain ⟨r', e1, e2⟩ := hlt l hl
        rw [e] at e2; cases e2; exact e1
      refine ⟨by rw [fold_len]; simp, get_nodup fun i j r h1 h2 => ?_, fun i r a h1' h2' => ?_⟩
      · have a1 := hget _ _ h1
        have a2 := hget _ _ h2
        rw [a1] at a2; cases a2; rfl
      · obtain ⟨a', e1, e2⟩ := h2 _ _ (hget _ _ h1')
        rw [h2'] at e1; cases e1; exact e2
end
end K29

/-! S29 -/
set_option maxRecDepth 100000
set_option maxHeartbeats 4000000
namespace K29
open G
variable {W : Nat}
section
variable {M : Store} {n : Nat}
def isNon : D → Bool | .non => true | _ => false
@[simp] theorem isNon_non : isNon .non = true := rfl
@[simp] theorem isNon_ptr {k : Nat} : isNon (.ptr k) = false := rfl
@[simp] theorem isNon_lst {k : List D} : isNon (.lst k) = false := rfl
@[simp] theorem isNon_tup {k : List D} : isNon (.tup k) = false := rfl
@[simp] theorem isNon_int {k : Int} : isNon (.int k) = false := rfl
@[simp] theorem rE_isN {P : Pg} {w : Nat} {cf : Nat → List D → Store → Res D} {ρ : Rho} {M : Store} {a : Xp} : runE P w cf ρ (.isN a) M = (runE P w cf ρ a M).zbind fun x M1 => .ok (.bl (isNon x)) M1 := by
  show (runE P w cf ρ a M).bind _ = (runE P w cf ρ a M).bind _
  congr 1
@[simp] theorem rE_notN {P : Pg} {w : Nat} {cf : Nat → List D → Store → Res D} {ρ : Rho} {M : Store} {a : Xp} : runE P w cf ρ (.notN a) M = (runE P w cf ρ a M).zbind fun x M1 => .ok (.bl (!isNon x)) M1 := by
  show (runE P w cf ρ a M).bind _ = (runE P w cf ρ a M).bind _
  congr 1; funext x M1; cases x <;> rfl
@[simp] theorem rT_isN {P : Pg} {w : Nat} {cf : Nat → List D → Store → Res D} {ρ : Rho} {M : Store} {a : Xp} : runT P w cf ρ (.isN a) M = (runE P w cf ρ a M).zbind fun x M1 => .ok (isNon x) M1 := by
  show (runE P w cf ρ a M).bind _ = (runE P w cf ρ a M).bind _
  congr 1
@[simp] theorem rT_notN {P : Pg} {w : Nat} {cf : Nat → List D → Store → Res D} {ρ : Rho} {M : Store} {a : Xp} : runT P w cf ρ (.notN a) M = (runE P w cf ρ a M).zbind fun x M1 => .ok (!isNon x) M1 := by
  show (runE P w cf ρ a M).bind _ = (runE P w cf ρ a M).bind _
  congr 1; funext x M1; cases x <;> rfl
theorem flat_il {l : List Int} : (il l).all flatd = true := by simp [il, flatd]
theorem any_il {l : List Int} {s : Int} : ((il l).any fun y => flateq y (.int s)) = decide (s ∈ l) := by
  induction l with
  | nil => rfl
  | cons a l ih =>
    rw [il, List.map_cons, List.any_cons]
    have : flateq (.int a) (.int s) = decide (a = s) := by
      show (a == s) = _
      by_cases h : a = s <;> simp [h]
    rw [this]
    have h2 : ((List.map D.int l).any fun y => flateq y (.int s)) = decide (s ∈ l) := ih
    rw [h2]
    by_cases h : a = s
    · simp [h]
    · have : ¬ s = a := fun e => h e.symm
      simp [h, this]
theorem inn_il {X : D} {l : List Int} {s : Int} (h : seqOf M X = some (il l)) : cmpop .inn (.int s) X M = .ok (.bl (decide (s ∈ l))) M := by
  simp only [cmpop, h]
  rw [if_pos ⟨rfl, flat_il⟩, any_il]
theorem nin_il {X : D} {l : List Int} {s : Int} (h : seqOf M X = some (il l)) : cmpop .nin (.int s) X M = .ok (.bl (!decide (s ∈ l))) M := by
  simp only [cmpop, h]
  rw [if_pos ⟨rfl, flat_il⟩, any_il]
@[simp] theorem rS_aug {P : Pg} {w : Nat} {cf : Nat → List D → Store → Res D} {ρ : Rho} {M : Store} {i : Nat} {o : Bop} {e : Xp} : runS P w cf (.aug i o e) ρ M = oD ρ[i]? fun x => zwith (runE P w cf ρ e M) ρ fun y M1 => oI x fun a => oI y fun b => match o with
    | .add => some (.nx (ρ.set i (some (.int (a + b)))), M1)
    | .sub => some (.nx (ρ.set i (some (.int (a - b)))), M1)
    | _ => none := by
  show (match ρ[i]? with | some (some x) => withE (runE P w cf ρ e M) ρ _ | _ => none) = _
  cases h : ρ[i]? with
  | none => rfl
  | some y =>
    cases y with
    | none => rfl
    | some x =>
      simp only [oD_some]
      refine congrArg _ (funext fun y => funext fun M1 => ?_)
      cases x <;> cases y <;> rfl
mutual
theorem eqd_refl : ∀ (d : D) (k : Nat), okd k d = true → eqd d d = true
  | .non, _, _ => rfl
  | .bl b, _, _ => by show (b == b) = true; simp
  | .int b, _, _ => by show (b == b) = true; simp
  | .str b, _, _ => by show (b == b) = true; simp
  | .tup xs, 0, h => by cases h
  | .lst xs, 0, h => by cases h
  | .tup xs, k + 1, h => by rw [okd] at h; exact eqds_refl xs k h
  | .lst xs, k + 1, h => by rw [okd] at h; exact eqds_refl xs k h
  | .scr _, k, h => by cases k <;> cases h
  | .ptr _, k, h => by cases k <;> cases h
theorem eqds_refl : ∀ (xs : List D) (k : Nat), xs.all (okd k) = true → eqds xs xs = true
  | [], _, _ => rfl
  | x :: xs, k, h => by
    rw [List.all_cons, Bool.and_eq_true] at h
    show (eqd x x && eqds xs xs) = true
    rw [eqd_refl x k h.1, eqds_refl xs k h.2]; rfl
end
theorem ne_same {d : D} (h : okd 12 (G.top M d) = true) : cmpop .ne d d M = .ok (.bl false) M := by
  rw [ne_dd h h, eqd_refl _ _ h]; rfl
theorem eq_same {d : D} (h : okd 12 (G.top M d) = true) : cmpop .eq d d M = .ok (.bl true) M := by
  rw [eq_dd h h, eqd_refl _ _ h]
theorem underDs_od {k : Nat} {l : List (List Nat)} : underDs k (od l) = true := by
  rw [underDs_iff]
  intro x hx
  obtain ⟨a, _, rfl⟩ := List.mem_map.mp hx
  simp only [underD]; exact underDs_nl
theorem seq_nl {l : List Nat} : nl l = il (l.map fun (k : Nat) => (k : Int)) := by simp [nl, il]
theorem sortI_perm (ns : List Int) : (sortI ns).Perm ns := List.mergeSort_perm _ _
theorem sortI_sorted (ns : List Int) : (sortI ns).Pairwise (· ≤ ·) := by
  have := List.pairwise_mergeSort (le := fun a b : Int => decide (a ≤ b)) (fun a b c h1 h2 => by simp at *; omega) (fun a b => by simp; omega) ns
  exact this.imp (by intro a b h; simpa using h)
theorem sortI_is {ns ns' : List Int} (h : ns'.Perm ns) (hs : ns'.Pairwise (· ≤ ·)) : sortI ns = ns' :=
  ((sortI_perm ns).trans h.symm).eq_of_pairwise (fun a b _ _ h1 h2 => Int.le_antisymm h1 h2) (sortI_sorted ns) hs
theorem range_sorted (k : Nat) : ((List.range k).map fun (k : Nat) => (k : Int)).Pairwise (· ≤ ·) := by
  rw [List.pairwise_map]
  exact List.pairwise_lt_range.imp fun {a b} h => by omega
theorem ne_bb {a b : Bool} : cmpop .ne (.bl a) (.bl b) M = .ok (.bl (!(a == b))) M := by
  rw [ne_dd rfl rfl]; rfl
theorem okd_il' {k : Nat} {l : List Int} : okd (k + 1) (.lst (il l)) = true := by rw [okd]; exact okd_il
theorem isTy_p {k : Nat} {xs : List D} (h : M[k]? = some (.lst xs)) : isTy M .list (.ptr k) = some true := by
  simp only [isTy, h]
theorem intsOf_il (l : List Int) : intsOf (il l) = some l := intsOf_map l
@[simp] theorem rT_chn {P : Pg} {w : Nat} {cf : Nat → List D → Store → Res D} {ρ : Rho} {M : Store} {o p : Cop} {a b c : Xp} : runT P w cf ρ (.chn o p a b c) M = (runE P w cf ρ a M).zbind fun x M1 => (runE P w cf ρ b M1).zbind fun y M2 => (cmpop o x y M2).zbind fun z M3 => onB z fun k => if k = true then (runE P w cf ρ c M3).zbind fun u M4 => (cmpop p y u M4).zbind fun z M5 => onB z fun k => .ok k M5 else .ok false M3 := by
  show (runE P w cf ρ a M).bind _ = (runE P w cf ρ a M).bind _
  congr 1; funext x M1
  show (runE P w cf ρ b M1).bind _ = (runE P w cf ρ b M1).bind _
  congr 1; funext y M2
  show (cmpop o x y M2).bind _ = (cmpop o x y M2).bind _
  congr 1; funext z M3
  cases z with
  | bl k =>
    cases k with
    | false => rfl
    | true =>
      simp only [onB_bl, if_true]
      show (runE P w cf ρ c M3).bind _ = (runE P w cf ρ c M3).bind _
      first
        | rfl
        | (congr 1; funext u M4
           show (cmpop p y u M4).bind _ = (cmpop p y u M4).bind _
           first | rfl | (congr 1; funext z M5; cases z <;> rfl))
  | _ => rfl
structure VP (p : Pc) : Prop where
  ne : p.x ≠ []
  inc : p.x.Pairwise (· < ·)
  rng : ∀ s ∈ p.x, 1 ≤ s ∧ s ≤ 8
  d1 : 1 ≤ p.d
  d2 : p.d ≤ 30
structure VL (lot : List Pc) : Prop where
  len : lot.length ≤ 10
  all : ∀ p ∈ lot, VP p
theorem inc_len : ∀ {l : List Int} {k : Int}, l.Pairwise (· < ·) → (∀ s ∈ l, k ≤ s ∧ s ≤ 8) → (l.length : Int) ≤ max 0 (9 - k)
  | [], k, _, _ => by simp; omega
  | a :: l, k, h, hr => by
    rw [List.pairwise_cons] at h
    have h1 := hr a List.mem_cons_self
    have := inc_len (l := l) (k := a + 1) h.2 fun s hs => ⟨by have := h.1 s hs; omega, (hr s (List.mem_cons_of_mem _ hs)).2⟩
    simp only [List.length_cons]
    omega
theorem VP.len {p : Pc} (h : VP p) : p.x.length ≤ 8 := by
  have := inc_len h.inc h.rng
  omega
theorem many_no {x : PySem.Str} {c : Prop} [Decidable c] (h : ¬ c) : many x c = none := if_neg h
theorem badE_none {p : Pc} (h : VP p) (i : Nat) : badE i p = none := by
  have h1 : ¬ hd0 p.x < 1 := by
    cases e : p.x with
    | nil => exact absurd e h.ne
    | cons a r =>
      have := (h.rng a (by rw [e]; exact List.mem_cons_self)).1
      simp only [hd0]; omega
  have h2 : ¬ p.d < 1 := by have := h.d1; omega
  unfold badE
  have h3 : ¬ (p.x = [] ∨ hd0 p.x < 1 ∨ p.d < 1) := by
    rintro (h' | h' | h')
    · exact h.ne h'
    · exact h1 h'
    · exact h2 h'
  rw [if_neg h3]
  rw [List.findSome?_eq_none_iff]
  intro k hk
  have hk := range_mem hk
  unfold downE
  have g1 : p.x[k]? = some (p.x[k]'(by omega)) := by simp
  have g2 : p.x[1 + k]? = some (p.x[1 + k]'(by omega)) := by simp
  have := List.pairwise_iff_getElem.mp h.inc k (1 + k) (by omega) (by omega) (by omega)
  rw [if_neg]
  rw [g1, g2]; simp only [Option.getD_some]; omega
theorem VL.x {lot : List Pc} (h : VL lot) : ∀ p ∈ lot, p.x.length ≤ 100000 := fun p hp => by have := (h.all p hp).len; omega
theorem hd0_mem {l : List Int} (h : l ≠ []) : hd0 l ∈ l := by
  cases l with
  | nil => exact absurd rfl h
  | cons a r => exact List.mem_cons_self
theorem top_lst {xs : List D} : G.top M (.lst xs) = .lst xs := rfl
theorem top_tup {xs : List D} : G.top M (.tup xs) = .tup xs := rfl
theorem at3 {α : Type} {a b c d : α} {r : List α} : L2.atI (a :: b :: c :: d :: r) 3 = some d := atI_nat (i := 3) rfl
theorem cut_to {xs : List D} {k : Nat} : cutd xs none (some (k : Int)) = xs.take k := by
  unfold cutd
  rw [HT.sIx_nat, HT.sIx_none]
  simp
theorem cut_from {xs : List D} {k : Nat} : cutd xs (some (k : Int)) none = xs.drop k := by
  unfold cutd
  rw [HT.sIx_nat, HT.sIx_none]
  by_cases h : k ≤ xs.length
  · rw [Nat.min_eq_left h, List.take_of_length_le (by simp)]
  · rw [Nat.min_eq_right (by omega)]
    simp
    omega
theorem cut_mid {xs : List D} {a b : Nat} : cutd xs (some (a : Int)) (some (b : Int)) = (xs.drop a).take (b - a) := by
  unfold cutd
  rw [HT.sIx_nat, HT.sIx_nat]
  by_cases h : a ≤ xs.length
  · rw [Nat.min_eq_left h, List.take_eq_take_iff]
    rw [List.length_drop]
    simp only [Nat.min_def]
    repeat' split
    all_goals omega
  · have h1 : xs.drop (min a xs.length) = [] := List.drop_eq_nil_of_le (by omega)
    have h2 : xs.drop a = [] := List.drop_eq_nil_of_le (by omega)
    rw [h1, h2]; simp
theorem perm_lift {α β : Type} {f : α → β} {ys l' : List β} (h : ys.Perm l') : ∀ l : List α, l.map f = l' → ∃ zs : List α, zs.Perm l ∧ zs.map f = ys := by
  induction h with
  | nil => intro l e; exact ⟨[], by rw [List.map_eq_nil_iff] at e; subst e; exact .refl _, rfl⟩
  | cons x _ ih =>
    intro l e
    cases l with
    | nil => cases e
    | cons a l =>
      rw [List.map_cons] at e
      cases e
      obtain ⟨zs, p, e⟩ := ih l rfl
      exact ⟨a :: zs, p.cons a, by rw [List.map_cons, e]⟩
  | swap x y l0 =>
    intro l e
    match l, e with
    | a :: b :: l, e =>
      rw [List.map_cons, List.map_cons] at e
      cases e
      exact ⟨b :: a :: l, .swap _ _ _, rfl⟩
  | trans _ _ ih1 ih2 =>
    intro l e
    obtain ⟨zs, p, e1⟩ := ih2 l e
    obtain ⟨ws, p2, e2⟩ := ih1 zs e1
    exact ⟨ws, p2.trans p, e2⟩
theorem underDs_il {k : Nat} {l : List Int} : underDs k (il l) = true := by
  rw [underDs_iff]
  intro x hx
  obtain ⟨a, _, rfl⟩ := List.mem_map.mp hx
  rfl
theorem underDs_pl {k : Nat} {l : List Pc} : underDs k (pl l) = true := by
  rw [underDs_iff]
  intro x hx
  obtain ⟨a, _, rfl⟩ := List.mem_map.mp hx
  simp [pc_D, underD, underDs, underDs_il]
structure PO (l : List Int) : Prop where
  nd : l.Nodup
  rng : ∀ s ∈ l, 1 ≤ s ∧ s ≤ 8
  len : 2 ≤ l.length ∧ l.length ≤ 8
theorem mix_il (p : Int × Int × Int) (l : List Int) (R : Store) (hx : l.length ≤ 100000) (hR : (R.all (underO (R.length + 1))) = true) : ∃ zs p', zs.Perm l ∧ callF P W (n + 2) 15 [.ptr 0, .lst (il l)] (pu p :: R) = .ok (.lst (il zs)) (pu p' :: R) := by
  obtain ⟨ys, p', hp, e⟩ := law_mix (W := W) (n := n) p (.lst (il l)) (il l) R (.inl rfl) (by simpa using hx) hR underDs_il
  obtain ⟨zs, hz, rfl⟩ := perm_lift hp l rfl
  exact ⟨zs, p', hz, e⟩
theorem mix_pl (p : Int × Int × Int) (x : D) (l : List Pc) (R : Store) (hh : LsD (pu p :: R) x (pl l)) (hx : l.length ≤ 100000) (hR : (R.all (underO (R.length + 1))) = true) : ∃ zs p', zs.Perm l ∧ callF P W (n + 2) 15 [.ptr 0, x] (pu p :: R) = .ok (.lst (pl zs)) (pu p' :: R) := by
  obtain ⟨ys, p', hp, e⟩ := law_mix (W := W) (n := n) p x (pl l) R hh (by simpa using hx) hR underDs_pl
  obtain ⟨zs, hz, rfl⟩ := perm_lift hp l rfl
  exact ⟨zs, p', hz, e⟩
theorem sort_inc {l zs : List Int} (h : PO l) (hz : zs.Nodup) (hs : ∀ s ∈ zs, s ∈ l) (hn : zs ≠ []) {d : Int} (h1 : 1 ≤ d) (h2 : d ≤ 30) : VP ⟨sortI zs, d⟩ := by
  refine ⟨?_, ?_, fun s hm => h.rng s (hs s ((sortI_perm zs).mem_iff.mp hm)), h1, h2⟩
  · intro e
    have := (sortI_perm zs).length_eq
    simp only at e
    rw [e] at this
    exact hn (List.length_eq_zero_iff.mp this.symm)
  · have hnd : (sortI zs).Nodup := (sortI_perm zs).symm.nodup hz
    exact ((sortI_sorted zs).and hnd).imp fun {a b} hh => by have := hh.2; omega
theorem take_ne {l : List Int} {k : Nat} (h : l ≠ []) (hk : 1 ≤ k) : l.take k ≠ [] := by
  cases l with
  | nil => exact absurd rfl h
  | cons a r => obtain ⟨j, rfl⟩ : ∃ j, k = j + 1 := ⟨k - 1, by omega⟩; simp
theorem PO.perm {l zs : List Int} (h : PO l) (p : zs.Perm l) : PO zs := ⟨p.symm.nodup h.nd, fun s hs => h.rng s (p.mem_iff.mp hs), by rw [p.length_eq]; exact h.len⟩
theorem PO.ne {l : List Int} (h : PO l) : l ≠ [] := by rintro rfl; have := h.len; simp at this
def fits (a b : Pc) : Bool := (a.x.all fun s => decide (s ∈ b.x)) && decide (a.d ≤ b.d)
def lack (a b : Pc) : List Int := a.x.filter fun s => !decide (s ∈ b.x)
theorem lack_nil {a b : Pc} : lack a b = [] ↔ (a.x.all fun s => decide (s ∈ b.x)) = true := by
  unfold lack
  rw [List.filter_eq_nil_iff, List.all_eq_true]
  simp
theorem fits_on (a b : Pc) : callF P W (n + 1) 6 [a.D, b.D] M = .ok (.bl (fits a b)) M := by
  rw [callF_eq (k := f6) rfl rfl]
  have key := forL_ret (l := a.x) (g := D.int) (f := foT P W (callF P W n) (.n 2) b6_1) (fun ρ M' => M' = M ∧ ∃ z, ρ = [some a.D, some b.D, z]) (fun s => if s ∈ b.x then none else some (.bl false)) (ρ := [some a.D, some b.D, none]) (M := M) ⟨rfl, _, rfl⟩ (fun _ _ h => h.1) ?_
  · simp [f6, b6, pc_D, at0, at1]
    simp only [pc_D] at key
    unfold fits
    cases hb : a.x.findSome? (fun s => if s ∈ b.x then none else some (D.bl false)) with
    | none =>
      rw [hb] at key
      obtain ⟨ρ', e, _, z, rfl⟩ := key
      have hall : (a.x.all fun s => decide (s ∈ b.x)) = true := by
        rw [List.all_eq_true]
        intro s hs
        have := List.findSome?_eq_none_iff.mp hb s hs
        by_cases h : s ∈ b.x
        · simpa using h
        · rw [if_neg h] at this; cases this
      rw [hall]
      simp [e, at1]
    | some d =>
      rw [hb] at key
      obtain ⟨s, hs, e⟩ := List.exists_of_findSome?_eq_some hb
      by_cases h : s ∈ b.x
      · rw [if_pos h] at e; cases e
      · rw [if_neg h] at e; cases e
        have hall : (a.x.all fun s => decide (s ∈ b.x)) = false := by
          rw [List.all_eq_false]
          exact ⟨s, hs, by simpa using h⟩
        rw [hall]
        simp [key]
  · rintro s hs ρ ⟨_, z, rfl⟩
    have e := nin_il (M := M) (X := .tup (il b.x)) (l := b.x) (s := s) rfl
    by_cases h : s ∈ b.x
    · simp [foT_app, b6_1, pc_D, at0, e, h]
    · simp [foT_app, b6_1, pc_D, at0, e, h]
theorem eqd_il_nilL {l : List Int} : eqd (.lst (il l)) (.lst []) = decide (l = []) := by
  cases l <;> simp [eqd, eqds]
theorem ne_nilL {l : List Int} : cmpop .ne (.lst (il l)) (.lst []) M = .ok (.bl (!decide (l = []))) M := by
  rw [ne_dd (x := .lst (il l)) okd_il' rfl]
  exact congrArg (fun b => Res.ok (D.bl (!b)) M) eqd_il_nilL
theorem law_fits (a b : Pc) (hx : a.x.length ≤ 100000) : callF P W (n + 1) 17 [a.D, b.D] M = .ok (.bl (fits a b)) M := by
  rw [callF_eq (k := f17) rfl rfl]
  have hc := lcA_filter (l := a.x) (acc := []) (f := lcT P W (callF P W n) [some a.D, some b.D, none] (.n 2) (.cons (.cmp .nin (.v 2) (.ix (.v 1) (.int 0))) .nil) (.v 2)) (g := D.int) (k := D.int) (p := fun s => !decide (s ∈ b.x)) (M := M) (fun s hs => by
    have e := nin_il (M := M) (X := .tup (il b.x)) (l := b.x) (s := s) rfl
    by_cases h : s ∈ b.x
    · simp [lcT_app, gslots, wipeR, pc_D, at0, e, h, Res.noerr]
    · simp [lcT_app, gslots, wipeR, pc_D, at0, e, h, Res.noerr]) (by simp [big, PySem.sizeLine]; omega)
  simp only [List.nil_append] at hc
  have hc2 : lcA (lcT P W (callF P W n) [some a.D, some b.D, none] (.n 2) (.cons (.cmp .nin (.v 2) (.ix (.v 1) (.int 0))) .nil) (.v 2)) (il a.x) [] M = .ok (il (lack a b)) M := hc
  have hne := ne_nilL (M := M) (l := lack a b)
  simp only [pc_D] at hc2
  simp [f17, b17, pc_D, at0, at1, hc2, hne]
  unfold fits
  by_cases h : lack a b = []
  · rw [lack_nil.mp h]
    simp [h, at1]
  · have hall : (a.x.all fun s => decide (s ∈ b.x)) = false := by
      cases e : a.x.all fun s => decide (s ∈ b.x) with
      | false => rfl
      | true => exact absurd (lack_nil.mpr e) h
    rw [hall]
    simp [h]
theorem hd0_at {l : List Int} (h : l ≠ []) : L2.atI (il l) 0 = some (.int (hd0 l)) := by
  cases l with
  | nil => exact absurd rfl h
  | cons a r => exact at0
theorem drawZ (p : Int × Int × Int) (m : Int) (hm : 0 < m) (hm2 : m < 1073741824) (R : Store) : ∃ (v : Nat) (p' : Int × Int × Int), (v : Int) < m ∧ callF P W (n + 1) 14 [.ptr 0, .int m] (pu p :: R) = .ok (.int v) (pu p' :: R) := by
  obtain ⟨v, p', h0, h1, e⟩ := draw (W := W) (n := n) p m (by omega) (by omega) R
  obtain ⟨k, rfl⟩ := Int.eq_ofNat_of_zero_le h0
  exact ⟨k, p', by omega, e⟩
theorem mem_sortI {l : List Int} {s : Int} : s ∈ sortI l ↔ s ∈ l := (sortI_perm l).mem_iff
theorem fits_no {a b : Pc} {s : Int} (h1 : s ∈ a.x) (h2 : s ∉ b.x) : fits a b = false := by
  unfold fits
  have : (a.x.all fun s => decide (s ∈ b.x)) = false := by
    rw [List.all_eq_false]; exact ⟨s, h1, by simpa using h2⟩
  rw [this]; rfl
theorem fits_late {a b : Pc} (h : b.d < a.d) : fits a b = false := by
  unfold fits
  have : decide (a.d ≤ b.d) = false := by simp; omega
  rw [this, Bool.and_false]
theorem fits_yes {a b : Pc} (h1 : ∀ s ∈ a.x, s ∈ b.x) (h2 : a.d ≤ b.d) : fits a b = true := by
  unfold fits
  rw [Bool.and_eq_true]
  exact ⟨List.all_eq_true.mpr fun s hs => by simpa using h1 s hs, by simpa using h2⟩
theorem srt_il {l : List Int} : srtD false (intsOf (il l)) (pairsOf (il l)) M = .ok (.lst (il (sortI l))) M := by
  rw [intsOf_il]; rfl
theorem bi_srt {l : List Int} : birun (.sorted false) [.lst (il l)] M = .ok (.lst (il (sortI l))) M := srt_il
theorem pairsOf_map (l : List (Int × Int)) : pairsOf (l.map pairD) = some l := by
  induction l with
  | nil => rfl
  | cons a l ih =>
    rw [List.map_cons]
    show (pairsOf (l.map pairD)).map _ = _
    rw [ih]; rfl
end
end K29

/-! U29 -/
set_option maxRecDepth 100000
set_option maxHeartbeats 4000000
namespace K29
open G
variable {W : Nat}
section
variable {M : Store} {n : Nat}
def grow (f : List (List Int)) (x : Int) : List (List Int) := f ++ f.map (· ++ [x])
def subsL (row : List Int) : List (List Int) := row.foldl grow [[]]
theorem mem_fold {y : List Int} : ∀ {row : List Int} {f : List (List Int)}, y ∈ row.foldl grow f ↔ ∃ a ∈ f, ∃ s, s.Sublist row ∧ y = a ++ s
  | [], f => by
    rw [List.foldl_nil]
    constructor
    · intro h; exact ⟨y, h, [], List.Sublist.refl _, by simp⟩
    · rintro ⟨a, ha, s, hs, rfl⟩
      rw [List.sublist_nil] at hs; subst hs; simpa using ha
  | x :: r, f => by
    rw [List.foldl_cons, mem_fold]
    unfold grow
    constructor
    · rintro ⟨a, ha, s, hs, rfl⟩
      rcases List.mem_append.mp ha with ha | ha
      · exact ⟨a, ha, s, hs.cons _, rfl⟩
      · obtain ⟨b, hb, rfl⟩ := List.mem_map.mp ha
        exact ⟨b, hb, x :: s, hs.cons_cons _, by simp⟩
    · rintro ⟨a, ha, s, hs, rfl⟩
      rcases List.sublist_cons_iff.mp hs with h1 | ⟨s', rfl, h1⟩
      · exact ⟨a, List.mem_append_left _ ha, s, h1, rfl⟩
      · exact ⟨a ++ [x], List.mem_append_right _ (List.mem_map.mpr ⟨a, ha, rfl⟩), s', h1, by simp⟩
theorem mem_subs {y row : List Int} : y ∈ subsL row ↔ y.Sublist row := by
  unfold subsL
  rw [mem_fold]
  constructor
  · rintro ⟨a, ha, s, hs, rfl⟩
    simp at ha; subst ha; simpa using hs
  · intro h; exact ⟨[], by simp, y, h, by simp⟩
theorem len_fold : ∀ {row : List Int} {f : List (List Int)}, (row.foldl grow f).length = f.length * 2 ^ row.length
  | [], f => by simp
  | x :: r, f => by
    rw [List.foldl_cons, len_fold, List.length_cons, Nat.pow_succ]
    simp only [grow, List.length_append, List.length_map]
    rw [← Nat.two_mul, Nat.mul_comm 2, Nat.mul_assoc, Nat.mul_comm 2]
theorem subs_len (row : List Int) : (subsL row).length = 2 ^ row.length := by unfold subsL; rw [len_fold]; simp
theorem subs_snoc (row : List Int) (x : Int) : subsL (row ++ [x]) = subsL row ++ (subsL row).map (· ++ [x]) := by
  unfold subsL; rw [List.foldl_append]; rfl
abbrev tl (ps : List (List Int)) : List D := ps.map tupD
theorem tups_tl (ps : List (List Int)) : tupsOf (tl ps) = some ps := by
  induction ps with
  | nil => rfl
  | cons x r ih =>
    show (match intsOf (il x), tupsOf (tl r) with | some x, some ps => some (x :: ps) | _, _ => none) = _
    rw [ih, intsOf_il]
theorem tl_snoc (row : List Int) (x : Int) : tl (subsL (row ++ [x])) = tl (subsL row) ++ tl ((subsL row).map (· ++ [x])) := by rw [subs_snoc]; simp
theorem add_tt {xs ys : List D} (h : xs.length + ys.length ≤ big) : binop .add (.tup xs) (.tup ys) M = .ok (.tup (xs ++ ys)) M := by
  show (if _ then _ else _) = _
  rw [if_pos h]
theorem pow_le {i k : Nat} (h : i ≤ k) : 2 ^ i ≤ 2 ^ k := Nat.pow_le_pow_right (by omega) h
theorem sub_turn {row : List Int} {i : Nat} {a : Int} {r0 r2 r3 : Option D} (h : row[i]? = some a) (hl : row.length ≤ 10) :
    foT P W (callF P W n) (.n 2) b0_1 (.int a) [r0, some (.lst (tl (subsL (row.take i)))), r2, r3] M = some (.nx [r0, some (.lst (tl (subsL (row.take (i + 1))))), some (.int a), r3], M) := by
  obtain ⟨hi, e⟩ := List.getElem?_eq_some_iff.mp h
  have ht : row.take (i + 1) = row.take i ++ [a] := by rw [List.take_succ_eq_append_getElem hi, e]
  have hlen := subs_len (row.take i)
  have h2 : 2 ^ (row.take i).length ≤ 2 ^ 10 := pow_le (by simp; omega)
  have hc := lcA_map (l := subsL (row.take i)) (acc := []) (f := lcT P W (callF P W n) [r0, some (.lst (tl (subsL (row.take i)))), some (.int a), r3] (.n 3) .nil (.bin .add (.v 3) (.tup (.cons (.v 2) .nil)))) (g := tupD) (k := fun x => tupD (x ++ [a])) (M := M) (fun x hx => by
    have := (mem_subs.mp hx).length_le
    simp at this
    have hb : x.length + 1 ≤ big := by simp [big, PySem.sizeLine]; omega
    simp [lcT_app, gslots, wipeR, tupD]
    rw [add_tt (by simpa using hb)]
    simp) (by simp [big, PySem.sizeLine]; omega)
  have hk : (subsL (row.take i)).map (fun x => tupD (x ++ [a])) = tl ((subsL (row.take i)).map (· ++ [a])) := by simp
  rw [hk, List.nil_append] at hc
  change lcA _ (tl (subsL (row.take i))) [] M = _ at hc
  have hadd : binop .add (.lst (tl (subsL (row.take i)))) (.lst (tl ((subsL (row.take i)).map (· ++ [a])))) M = .ok (.lst (tl (subsL (row.take (i + 1))))) M := by
    rw [ht, tl_snoc, add_ll (by simp [big, PySem.sizeLine]; omega)]
  generalize tl (subsL (row.take (i + 1))) = X2 at *
  generalize tl ((subsL (row.take i)).map (· ++ [a])) = X1 at *
  generalize tl (subsL (row.take i)) = X0 at *
  simp [foT_app, b0_1, hc, hadd]
theorem sub_loop {row : List Int} {r0 r2 r3 : Option D} (hl : row.length ≤ 10) :
    ∃ r2', forL (foT P W (callF P W n) (.n 2) b0_1) (il row) [r0, some (.lst [.tup []]), r2, r3] M = some (.nx [r0, some (.lst (tl (subsL row))), r2', r3], M) := by
  have key := forL_inv (l := row) (g := D.int) (f := foT P W (callF P W n) (.n 2) b0_1) (fun i ρ M' => M' = M ∧ ∃ r2, ρ = [r0, some (.lst (tl (subsL (row.take i)))), r2, r3]) (ρ := [r0, some (.lst [.tup []]), r2, r3]) (M := M) ⟨rfl, r2, rfl⟩ ?_
  · obtain ⟨ρ', M', e, rfl, r2', rfl⟩ := key
    rw [List.take_length] at e
    exact ⟨r2', e⟩
  · rintro i a ρ M' hi ⟨rfl, r2, rfl⟩
    exact ⟨_, _, sub_turn hi hl, rfl, _, rfl⟩
theorem subsets (row : List Int) (hl : row.length ≤ 10) : callF P W (n + 1) 0 [.tup (il row)] M = .ok (.lst (tl (sortT (subsL row)))) M := by
  rw [callF_eq (k := f0) rfl rfl]
  obtain ⟨r2, e⟩ := sub_loop (W := W) (n := n) (M := M) (row := row) (r0 := some (.tup (il row))) (r2 := none) (r3 := none) hl
  have ht := tups_tl (subsL row)
  generalize tl (subsL row) = X at *
  simp [f0, b0, e, ht]
theorem law_subsets (row : List Int) (hl : row.length ≤ 10) : callF P W (n + 1) 16 [.lst (il row)] M = .ok (.lst (tl (sortT (subsL row)))) M := by
  rw [callF_eq (k := f16) rfl rfl]
  obtain ⟨r2, e⟩ := sub_loop (W := W) (n := n) (M := M) (row := row) (r0 := some (.lst (il row))) (r2 := none) (r3 := none) hl
  have ht := tups_tl (subsL row)
  have hb : b16_1 = b0_1 := rfl
  generalize tl (subsL row) = X at *
  simp [f16, b16, hb, e, ht]
end
end K29

/-! V29 -/
set_option maxRecDepth 100000
set_option maxHeartbeats 4000000
namespace K29
open G
variable {W : Nat}
section
variable {M : Store} {n : Nat}
def optAt (opts : List (List Nat)) (a : Int) : List Nat := (opts[a.toNat]?).getD []
def addS (S : List Nat) (r : Nat) : List Nat := if r ∈ S then S else S ++ [r]
def nearS (opts : List (List Nat)) (x : List Int) : List Nat := x.foldl (fun S a => (optAt opts a).foldl addS S) []
def nearF (opts : List (List Nat)) (m : Nat) (x : List Int) : List Nat := (List.range m).filter fun j => x.any fun a => decide (j ∈ optAt opts a)
theorem mem_addS {S : List Nat} {r q : Nat} : q ∈ addS S r ↔ q ∈ S ∨ q = r := by
  unfold addS
  split
  · constructor
    · exact .inl
    · rintro (h | rfl)
      · exact h
      · assumption
  · simp
theorem mem_addF {q : Nat} : ∀ {l S : List Nat}, q ∈ l.foldl addS S ↔ q ∈ S ∨ q ∈ l
  | [], S => by simp
  | r :: l, S => by rw [List.foldl_cons, mem_addF, mem_addS, List.mem_cons, or_assoc]
theorem nd_addF : ∀ {l S : List Nat}, S.Nodup → (l.foldl addS S).Nodup
  | [], S, h => h
  | r :: l, S, h => by
    rw [List.foldl_cons]
    refine nd_addF ?_
    unfold addS
    split
    · exact h
    · rename_i hr
      rw [List.nodup_append]
      refine ⟨h, by simp, fun a ha b hb => ?_⟩
      simp at hb; subst hb
      exact fun e => hr (e ▸ ha)
theorem mem_nearG {opts : List (List Nat)} {q : Nat} : ∀ {x : List Int} {S : List Nat}, q ∈ x.foldl (fun S a => (optAt opts a).foldl addS S) S ↔ q ∈ S ∨ ∃ a ∈ x, q ∈ optAt opts a
  | [], S => by simp
  | a :: x, S => by
    rw [List.foldl_cons, mem_nearG, mem_addF]
    constructor
    · rintro ((h | h) | ⟨b, hb, h⟩)
      · exact .inl h
      · exact .inr ⟨a, List.mem_cons_self, h⟩
      · exact .inr ⟨b, List.mem_cons_of_mem _ hb, h⟩
    · rintro (h | ⟨b, hb, h⟩)
      · exact .inl (.inl h)
      · rcases List.mem_cons.mp hb with rfl | hb
        · exact .inl (.inr h)
        · exact .inr ⟨b, hb, h⟩
theorem nd_nearG {opts : List (List Nat)} : ∀ {x : List Int} {S : List Nat}, S.Nodup → (x.foldl (fun S a => (optAt opts a).foldl addS S) S).Nodup
  | [], S, h => h
  | a :: x, S, h => by rw [List.foldl_cons]; exact nd_nearG (nd_addF h)
theorem mem_nearS {opts : List (List Nat)} {x : List Int} {q : Nat} : q ∈ nearS opts x ↔ ∃ a ∈ x, q ∈ optAt opts a := by
  unfold nearS; rw [mem_nearG]; simp
theorem nd_nearS {opts : List (List Nat)} {x : List Int} : (nearS opts x).Nodup := nd_nearG List.nodup_nil
def Below (opts : List (List Nat)) (m : Nat) : Prop := ∀ a ∈ opts, ∀ q ∈ a, q < m
theorem Below.at {opts : List (List Nat)} {m : Nat} (h : Below opts m) {a : Int} {q : Nat} (hq : q ∈ optAt opts a) : q < m := by
  unfold optAt at hq
  cases e : opts[a.toNat]? with
  | none => rw [e] at hq; cases hq
  | some l => rw [e] at hq; exact h l (List.mem_of_getElem? e) q hq
theorem mem_nearF {opts : List (List Nat)} {m : Nat} {x : List Int} {q : Nat} (h : Below opts m) : q ∈ nearF opts m x ↔ ∃ a ∈ x, q ∈ optAt opts a := by
  unfold nearF
  rw [List.mem_filter, List.mem_range, List.any_eq_true]
  constructor
  · rintro ⟨_, a, ha, hq⟩; exact ⟨a, ha, by simpa using hq⟩
  · rintro ⟨a, ha, hq⟩; exact ⟨h.at hq, a, ha, by simpa using hq⟩
theorem nd_nearF {opts : List (List Nat)} {m : Nat} {x : List Int} : (nearF opts m x).Nodup := List.nodup_range.sublist List.filter_sublist
theorem near_perm {opts : List (List Nat)} {m : Nat} {x : List Int} (h : Below opts m) : (nearS opts x).Perm (nearF opts m x) :=
  (List.perm_ext_iff_of_nodup nd_nearS nd_nearF).mpr fun q => by rw [mem_nearS, mem_nearF h]
def few (opts : List (List Nat)) (m : Nat) (x : List Int) : Bool := decide ((nearF opts m x).length < x.length)
def ri (k : Nat) : List Int := (List.range k).map fun (i : Nat) => (i : Int)
def shortO (opts : List (List Nat)) (m : Nat) : Option (List Int) := (sortT (subsL (ri opts.length))).find? (few opts m)
theorem mem_parts {k : Nat} {x : List Int} : x ∈ sortT (subsL (ri k)) ↔ x.Sublist (ri k) := by
  unfold sortT
  rw [(List.mergeSort_perm _ _).mem_iff, mem_subs]
theorem ri_nodup (k : Nat) : (ri k).Nodup := by
  unfold ri
  refine List.Pairwise.map _ (R := fun a b => a ≠ b) ?_ List.nodup_range
  intro a b h e; exact h (by omega)
theorem mem_ri {k : Nat} {a : Int} : a ∈ ri k ↔ ∃ i : Nat, i < k ∧ a = i := by
  unfold ri
  simp only [List.mem_map, List.mem_range]
  constructor
  · rintro ⟨i, h, rfl⟩; exact ⟨i, h, rfl⟩
  · rintro ⟨i, h, rfl⟩; exact ⟨i, h, rfl⟩
theorem part_in {k : Nat} {x : List Int} (h : x.Sublist (ri k)) {a : Int} (ha : a ∈ x) : ∃ i : Nat, i < k ∧ a = i := mem_ri.mp (h.subset ha)
theorem optAt_nat {opts : List (List Nat)} {i : Nat} {a : List Nat} (h : opts[i]? = some a) : optAt opts (i : Int) = a := by
  unfold optAt; rw [Int.toNat_natCast, h]; rfl
/-- a choice leaves no part with too few -/
theorem short_none {opts : List (List Nat)} {m : Nat} {ps : List Nat} (h : Below opts m) (d : Sdr opts ps) : shortO opts m = none := by
  unfold shortO
  rw [List.find?_eq_none]
  intro x hx
  have hs := mem_parts.mp hx
  unfold few
  rw [decide_eq_true_eq, Nat.not_lt]
  have hxn : x.Nodup := (ri_nodup _).sublist hs
  have hget : ∀ a ∈ x, ∃ (i r : Nat), a = i ∧ ps[i]? = some r ∧ ps.getD a.toNat 0 = r ∧ r ∈ optAt opts a := by
    intro a ha
    obtain ⟨i, hi, rfl⟩ := part_in hs ha
    have hip : i < ps.length := by rw [d.len]; exact hi
    have hp : ps[i]? = some ps[i] := by simp [hip]
    have ho : opts[i]? = some opts[i] := by simp [hi]
    refine ⟨i, ps[i], rfl, hp, by simp [hip], ?_⟩
    rw [optAt_nat ho]
    exact d.mem i _ _ hp ho
  have hnd : (x.map fun a => ps.getD a.toNat 0).Nodup := by
    refine List.Pairwise.map _ (R := fun a b => a ≠ b ∧ a ∈ x ∧ b ∈ x) ?_ ?_
    · rintro a b ⟨hab, ha, hb⟩ e
      obtain ⟨i, r, e1, e2, e3, _⟩ := hget a ha
      obtain ⟨j, s, f1, f2, f3, _⟩ := hget b hb
      have e : ps.getD a.toNat 0 = ps.getD b.toNat 0 := e
      rw [e3, f3] at e
      subst e
      have := nodup_get d.nd e2 f2
      subst this
      exact hab (e1.trans f1.symm)
    · rw [List.pairwise_iff_getElem]
      intro i j hi hj hlt
      exact ⟨List.pairwise_iff_getElem.mp hxn i j hi hj hlt, List.getElem_mem hi, List.getElem_mem hj⟩
  have := List.Nodup.length_le_of_subset hnd (l₂ := nearF opts m x) (by
    intro q hq
    obtain ⟨a, ha, rfl⟩ := List.mem_map.mp hq
    obtain ⟨i, r, _, _, e3, e4⟩ := hget a ha
    show ps.getD a.toNat 0 ∈ _
    rw [e3]
    exact (mem_nearF h).mpr ⟨a, ha, e4⟩)
  simpa using this
theorem short_some {opts : List (List Nat)} {m : Nat} (h : Below opts m) (v : Viol opts) : shortO opts m ≠ none := by
  obtain ⟨L, S, h1, h2, h3, h4⟩ := v
  unfold shortO
  rw [Ne, List.find?_eq_none]
  intro hall
  let x := (ri opts.length).filter fun a => decide (a.toNat ∈ L)
  have hx := hall x (mem_parts.mpr List.filter_sublist)
  unfold few at hx
  rw [decide_eq_true_eq, Nat.not_lt] at hx
  have hxl : L.length ≤ x.length := by
    have hnd : (L.map fun (i : Nat) => (i : Int)).Nodup := by
      refine List.Pairwise.map _ (R := fun a b => a ≠ b) ?_ h1
      intro a b hab e; exact hab (by omega)
    have := List.Nodup.length_le_of_subset hnd (l₂ := x) (by
      intro q hq
      obtain ⟨i, hi, rfl⟩ := List.mem_map.mp hq
      exact List.mem_filter.mpr ⟨mem_ri.mpr ⟨i, h2 i hi, rfl⟩, by simpa using hi⟩)
    simpa using this
  have hS : (nearF opts m x).length ≤ S.length := List.Nodup.length_le_of_subset nd_nearF fun q hq => by
    obtain ⟨a, ha, hq⟩ := (mem_nearF h).mp hq
    obtain ⟨hr, hL⟩ := List.mem_filter.mp ha
    obtain ⟨i, hi, rfl⟩ := mem_ri.mp hr
    have ho : opts[i]? = some opts[i] := by simp [hi]
    rw [optAt_nat ho] at hq
    exact h3 i (by simpa using hL) _ ho q hq
  omega
end
end K29

/-! W29 -/
set_option maxRecDepth 100000
set_option maxHeartbeats 4000000
namespace K29
open G
variable {W : Nat}
section
variable {M : Store} {n : Nat}
def okP (p : Pc) (second : List Pc) (j : Nat) : Bool := match second[j]? with | some q => fits q p | none => false
def opt (p : Pc) (second : List Pc) : List Nat := (List.range second.length).filter (okP p second)
def opts (first second : List Pc) : List (List Nat) := first.map fun p => opt p second
theorem opts_below (first second : List Pc) : Below (opts first second) second.length := by
  intro a ha q hq
  obtain ⟨p, _, rfl⟩ := List.mem_map.mp ha
  exact List.mem_range.mp (List.mem_filter.mp hq).1
theorem opts_len (first second : List Pc) : (opts first second).length = first.length := by simp [opts]
theorem harder_places (p : Pc) (second : List Pc) (hl : second.length ≤ 100000) : callF P W (n + 2) 10 [p.D, .lst (pl second)] M = .ok (.lst (nl (opt p second))) M := by
  rw [callF_eq (k := f10) rfl rfl]
  have hc := lcA_filter (l := List.range second.length) (acc := []) (f := lcT P W (callF P W (n + 1)) [some p.D, some (.lst (pl second)), none] (.n 2) (.cons (.val (.call 6 (.cons (.ix (.v 1) (.v 2)) (.cons (.v 0) .nil)))) .nil) (.v 2)) (g := fun (i : Nat) => D.int (i : Int)) (k := fun (i : Nat) => D.int (i : Int)) (p := okP p second) (M := M) (fun i hi => by
    have hi := range_mem hi
    have hg : second[i]? = some second[i] := by simp [hi]
    have ha := pl_get hg
    have hf := fits_on (W := W) (n := n) (M := M) second[i] p
    have ho : okP p second i = fits second[i] p := by unfold okP; rw [hg]
    rw [ho]
    generalize second[i] = q at *
    simp only [pc_D] at hf
    cases hb : fits q p <;> rw [hb] at hf <;> simp [lcT_app, gslots, wipeR, ha, pc_D, hf, Res.noerr]) (by simp [big, PySem.sizeLine]; omega)
  simp only [List.nil_append] at hc
  simp [f10, b10, rngI_nat (show second.length ≤ 16777216 by omega), hc]
  rfl
theorem dput_skv2 (S : List Nat) (r : Nat) : dput (skv S) (.int (r : Int)) (.bl true) = skv (addS S r) := by
  unfold addS
  split
  · rename_i h
    unfold dput skv
    have e : (fun p : D × D => eqd p.1 (D.int (r : Int))) ∘ (fun a : Nat => (D.int (a : Int), D.bl true)) = fun p => p == r := by
      funext p; simp [eqd_nn]
    rw [List.any_map, e, if_pos (by simpa using h), List.map_map]
    refine List.map_congr_left fun a _ => ?_
    simp only [Function.comp_def, eqd_nn]
    split <;> rfl
  · exact dput_skv S r ‹_›
theorem Ok.addS {B : Nat} {S : List Nat} {r : Nat} (h : Ok B S) (hr : r < B) : Ok B (addS S r) := by
  unfold K29.addS
  split
  · exact h
  · exact h.add hr ‹_›
/-- near, place by place -/
theorem near_in {B : Nat} (hB : B ≤ 100000) {N : Store} {l S : List Nat} {r0 r1 r2 r3 r4 r6 r7 r8 : Option D} (hl : ∀ q ∈ l, q < B) (hS : Ok B S) :
    ∃ r8', forL (foT P W (callF P W n) (.n 8) b11_1) (nl l) [r0, r1, r2, r3, r4, some (.ptr N.length), r6, r7, r8] (N ++ [.dic false (skv S)]) = some (.nx [r0, r1, r2, r3, r4, some (.ptr N.length), r6, r7, r8'], N ++ [.dic false (skv (l.foldl addS S))]) ∧ Ok B (l.foldl addS S) := by
  have key := forL_rel (l := l) (g := fun (i : Nat) => D.int (i : Int)) (f := foT P W (callF P W n) (.n 8) b11_1) (fun S ρ M' => Ok B S ∧ M' = N ++ [.dic false (skv S)] ∧ ∃ r8, ρ = [r0, r1, r2, r3, r4, some (.ptr N.length), r6, r7, r8]) addS (s := S) (ρ := [r0, r1, r2, r3, r4, some (.ptr N.length), r6, r7, r8]) (M := N ++ [.dic false (skv S)]) ⟨hS, rfl, _, rfl⟩ ?_
  · obtain ⟨ρ', M', e, h1, rfl, r8', rfl⟩ := key
    exact ⟨r8', e, h1⟩
  · rintro q hq S ρ M' ⟨h1, rfl, r8, rfl⟩
    have hlen := h1.len
    have hk : isKey false (D.int (q : Int)) = true := rfl
    have hb : (skv S).length < big := by simp [skv, big, PySem.sizeLine]; omega
    refine ⟨[r0, r1, r2, r3, r4, some (.ptr N.length), r6, r7, some (.int (q : Int))], N ++ [.dic false (skv (addS S q))], by simp [foT_app, b11_1, hk, hb, dput_skv2], h1.addS (hl q hq), rfl, _, rfl⟩
theorem at_opts {opts : List (List Nat)} {i : Nat} (h : i < opts.length) : L2.atI (od opts) (i : Int) = some (.lst (nl (optAt opts i))) := by
  have ho : opts[i]? = some opts[i] := by simp [h]
  rw [optAt_nat ho]
  exact atI_nat (by simp [h])
theorem near_out {opts : List (List Nat)} {m : Nat} (hm : m ≤ 100000) (hb : Below opts m) {N : Store} {o : Nat} (ho : N[o]? = some (.lst (od opts))) {x : List Int} (hx : x.Sublist (ri opts.length)) {r0 r1 r3 r4 r6 r7 r8 : Option D} :
    ∃ r6' r8', forL (foT P W (callF P W n) (.n 6) b11_2) (il x) [r0, r1, some (.ptr o), r3, r4, some (.ptr N.length), r6, r7, r8] (N ++ [.dic false (skv [])]) = some (.nx [r0, r1, some (.ptr o), r3, r4, some (.ptr N.length), r6', r7, r8'], N ++ [.dic false (skv (nearS opts x))]) := by
  have hoN : o < N.length := (List.getElem?_eq_some_iff.mp ho).1
  have key := forL_rel (l := x) (g := D.int) (f := foT P W (callF P W n) (.n 6) b11_2) (fun S ρ M' => Ok m S ∧ M' = N ++ [.dic false (skv S)] ∧ ∃ r6 r8, ρ = [r0, r1, some (.ptr o), r3, r4, some (.ptr N.length), r6, r7, r8]) (fun S a => (optAt opts a).foldl addS S) (s := []) (ρ := [r0, r1, some (.ptr o), r3, r4, some (.ptr N.length), r6, r7, r8]) (M := N ++ [.dic false (skv [])]) ⟨⟨List.nodup_nil, by simp⟩, rfl, _, _, rfl⟩ ?_
  · obtain ⟨ρ', M', e, _, rfl, r6', r8', rfl⟩ := key
    exact ⟨r6', r8', e⟩
  · rintro a ha S ρ M' ⟨h1, rfl, r6, r8, rfl⟩
    obtain ⟨i, hi, rfl⟩ := part_in hx ha
    have hat := at_opts hi
    have ho' : (N ++ [Ob.dic false (skv S)])[o]? = some (.lst (od opts)) := by rw [List.getElem?_append_left hoN, ho]
    obtain ⟨r8', e, h2⟩ := near_in (W := W) (n := n) hm (N := N) (l := optAt opts i) (S := S) (r0 := r0) (r1 := r1) (r2 := some (.ptr o)) (r3 := r3) (r4 := r4) (r6 := some (.int (i : Int))) (r7 := r7) (r8 := r8) (fun q hq => hb.at hq) h1
    refine ⟨_, _, by simp [foT_app, b11_2, ho', hat, e]; exact ⟨rfl, rfl⟩, h2, rfl, _, _, rfl⟩
def noD (opts : List (List Nat)) (m : Nat) (x : List Int) : D := .tup [.str "no", .tup (il x), .tup (nl (nearF opts m x))]
theorem sort_near {opts : List (List Nat)} {m : Nat} {x : List Int} (hb : Below opts m) : sortI ((nearS opts x).map fun (k : Nat) => (k : Int)) = (nearF opts m x).map fun (k : Nat) => (k : Int) := by
  refine sortI_is ((near_perm hb).symm.map _) ?_
  exact List.Pairwise.sublist (List.Sublist.map _ List.filter_sublist) (range_sorted m)
theorem keys_skv (S : List Nat) : (skv S).map (·.1) = nl S := by simp [skv]
theorem chosen_turn {opts : List (List Nat)} {m : Nat} (hm : m ≤ 100000) (hb : Below opts m) {N : Store} {o : Nat} (ho : N[o]? = some (.lst (od opts))) {x : List Int} (hx : x.Sublist (ri opts.length)) {r0 r1 r3 r4 r5 r6 r7 r8 : Option D} :
    ∃ r6' r8', foT P W (callF P W n) (.n 4) b11_3 (.tup (il x)) [r0, r1, some (.ptr o), r3, r4, r5, r6, r7, r8] N = if few opts m x = true then some (.rt (noD opts m x), N ++ [.dic false (skv (nearS opts x))]) else some (.nx [r0, r1, some (.ptr o), r3, some (.tup (il x)), some (.ptr N.length), r6', r7, r8'], N ++ [.dic false (skv (nearS opts x))]) := by
  obtain ⟨r6', r8', e⟩ := near_out (W := W) (n := n) hm hb ho hx (r0 := r0) (r1 := r1) (r3 := r3) (r4 := some (.tup (il x))) (r6 := r6) (r7 := r7) (r8 := r8)
  refine ⟨r6', r8', ?_⟩
  have e0 : skv [] = [] := rfl
  rw [e0] at e
  have hlen : (nearS opts x).length = (nearF opts m x).length := (near_perm hb).length_eq
  have hks := keys_skv (nearS opts x)
  have hsl : (skv (nearS opts x)).length = (nearF opts m x).length := by rw [← hlen]; simp [skv]
  have hso := sort_near (x := x) hb
  have hin := intsOf_il ((nearS opts x).map fun (k : Nat) => (k : Int))
  rw [← seq_nl] at hin
  have hil : (il x).length = x.length := by simp
  have hout : ((nearF opts m x).map fun (k : Nat) => (k : Int)).map D.int = nl (nearF opts m x) := (seq_nl).symm
  unfold few noD
  generalize hK : skv (nearS opts x) = K at *
  generalize hN : nl (nearS opts x) = L at *
  by_cases h : (nearF opts m x).length < x.length
  · rw [if_pos (by simpa using h)]
    simp [foT_app, b11_3, e, hsl, h, hks, hin, hso]
  · rw [if_neg (by simpa using h)]
    simp [foT_app, b11_3, e, hsl, h]
theorem find_map {α β : Type} {p : α → Bool} {g : α → β} : ∀ {l : List α}, l.findSome? (fun a => if p a = true then some (g a) else none) = (l.find? p).map g
  | [] => rfl
  | a :: l => by
    rw [List.findSome?_cons, List.find?_cons]
    cases h : p a
    · simp only [Bool.false_eq_true, if_false]; exact find_map
    · simp
theorem chosen_loop {opts : List (List Nat)} {m : Nat} (hm : m ≤ 100000) (hb : Below opts m) {B : Store} {o : Nat} (ho : B[o]? = some (.lst (od opts))) {r0 r1 r3 r4 r5 r6 r7 r8 : Option D} :
    match shortO opts m with
    | none => ∃ ρ' G, forL (foT P W (callF P W n) (.n 4) b11_3) (tl (sortT (subsL (ri opts.length)))) [r0, r1, some (.ptr o), r3, r4, r5, r6, r7, r8] B = some (.nx ρ', B ++ G)
    | some x => ∃ G, forL (foT P W (callF P W n) (.n 4) b11_3) (tl (sortT (subsL (ri opts.length)))) [r0, r1, some (.ptr o), r3, r4, r5, r6, r7, r8] B = some (.rt (noD opts m x), B ++ G) := by
  have hoB : o < B.length := (List.getElem?_eq_some_iff.mp ho).1
  have key := forL_find (l := sortT (subsL (ri opts.length))) (g := tupD) (f := foT P W (callF P W n) (.n 4) b11_3) (fun ρ M' => (∃ G, M' = B ++ G) ∧ ∃ r4 r5 r6 r8, ρ = [r0, r1, some (.ptr o), r3, r4, r5, r6, r7, r8]) (fun x => if few opts m x = true then some (noD opts m x) else none) (fun d fl M' => fl = .rt d ∧ ∃ G, M' = B ++ G) (ρ := [r0, r1, some (.ptr o), r3, r4, r5, r6, r7, r8]) (M := B) ⟨⟨[], by simp⟩, _, _, _, _, rfl⟩ ?_
  · rw [find_map] at key
    show match shortO opts m with | none => _ | some x => _
    unfold shortO
    cases h : (sortT (subsL (ri opts.length))).find? (few opts m) with
    | none =>
      rw [h] at key
      obtain ⟨ρ', M', e, ⟨G, rfl⟩, _⟩ := key
      exact ⟨_, _, e⟩
    | some x =>
      rw [h] at key
      obtain ⟨fl, M', e, rfl, G, rfl⟩ := key
      exact ⟨_, e⟩
  · rintro x hx ρ M' ⟨⟨G, rfl⟩, r4, r5, r6, r8, rfl⟩
    have ho' : (B ++ G)[o]? = some (.lst (od opts)) := by rw [List.getElem?_append_left hoB, ho]
    obtain ⟨r6', r8', e⟩ := chosen_turn (W := W) (n := n) hm hb ho' (mem_parts.mp hx) (r0 := r0) (r1 := r1) (r3 := r3) (r4 := r4) (r5 := r5) (r6 := r6) (r7 := r7) (r8 := r8)
    have e9 : foT P W (callF P W n) (.n 4) b11_3 (tupD x) = foT P W (callF P W n) (.n 4) b11_3 (.tup (il x)) := rfl
    rw [e9, e]
    by_cases h : few opts m x = true
    · simp only [if_pos h]
      exact ⟨_, _, rfl, rfl, rfl, _, by rw [List.append_assoc]⟩
    · simp only [if_neg h]
      exact ⟨_, _, rfl, ⟨_, by rw [List.append_assoc]⟩, _, _, _, _, rfl⟩
end
end K29

/-! X29 -/
set_option maxRecDepth 100000
set_option maxHeartbeats 4000000
namespace K29
open G
variable {W : Nat}
section
variable {M : Store} {n : Nat}
def yesL (ps : List Nat) : List D := ps.zipIdx.map fun p => .tup [.int (p.2 : Int), .int (p.1 : Int)]
theorem laid_word (first second : List Pc) (hf : first.length ≤ 10) (hs : second.length ≤ 1000) (hn : first.length < n) (hW : 100000 < W) :
    match shortO (opts first second) second.length with
    | none => ∃ ps R, callF P W (n + 3) 11 [.lst (pl first), .lst (pl second)] M = .ok (.tup [.str "yes", .ptr (M.length + R.length)]) (M ++ R ++ [.lst (yesL ps)]) ∧ Sdr (opts first second) ps
    | some x => callF P W (n + 3) 11 [.lst (pl first), .lst (pl second)] M = .ok (noD (opts first second) second.length x) M := by
  rw [callF_eq (k := f11) rfl rfl]
  have hlc := lcA_map (l := first) (acc := []) (f := lcT P W (callF P W (n + 2)) [some (.lst (pl first)), some (.lst (pl second)), none, none, none, none, none, none, none] (.n 7) .nil (.call 10 (.cons (.v 7) (.cons (.v 1) .nil)))) (g := Pc.D) (k := fun p => .lst (nl (opt p second))) (M := M) (fun p _ => by
    have e := harder_places (W := W) (n := n) (M := M) p second (by omega)
    simp only [pc_D] at e
    simp [lcT_app, gslots, wipeR, pc_D, e, Res.noerr]) (by simp [big, PySem.sizeLine]; omega)
  have hod : (first.map fun p => D.lst (nl (opt p second))) = od (opts first second) := by simp [opts]
  rw [hod, List.nil_append] at hlc
  change lcA _ (pl first) [] M = _ at hlc
  have hb := opts_below first second
  have hol := opts_len first second
  have ho : (M ++ [Ob.lst (od (opts first second))])[M.length]? = some (.lst (od (opts first second))) := st0
  have hp := pair_up (W := W) (n := n + 1) (B := second.length) (by omega) ho hb (by omega) (by omega) hW
  have hN : n + 1 + 1 = n + 2 := rfl
  rw [hN] at hp
  have hri : rngOf 0 (first.length : Int) = il (ri first.length) := by rw [rngOf_map]; simp [ri, il]
  have htr : trgI (first.length : Int) (M ++ [Ob.lst (od (opts first second))]) = .ok (.tup (il (ri first.length))) (M ++ [Ob.lst (od (opts first second))]) := by
    unfold trgI
    rw [if_pos (by omega), hri]
  have hsub := subsets (W := W) (M := M ++ [Ob.lst (od (opts first second))]) (n := n + 1) (ri first.length) (by simp [ri]; omega)
  have hlp := chosen_loop (W := W) (n := n + 2) (m := second.length) (by omega) hb ho (r0 := some (.lst (pl first))) (r1 := some (.lst (pl second))) (r3 := some .non) (r4 := none) (r5 := none) (r6 := none) (r7 := none) (r8 := none)
  rw [hol] at hlp
  rw [hN] at hsub
  have hlen : (pl first).length = first.length := by simp
  generalize hX : tl (sortT (subsL (ri first.length))) = X at *
  generalize hO : od (opts first second) = O at *
  rcases hp with ⟨e1, v⟩ | ⟨ps, e1, sd⟩
  · have hne := short_some (m := second.length) hb v
    cases h : shortO (opts first second) second.length with
    | none => exact absurd h hne
    | some x =>
      rw [h] at hlp
      obtain ⟨G, e2⟩ := hlp
      simp only
      have hu : underD M.length (noD (opts first second) second.length x) = true := by
        unfold noD
        simp only [underD, underDs, underDs_il, underDs_nl, Bool.and_self]
      generalize noD (opts first second) second.length x = Dn at *
      generalize pl second = S at *
      generalize hF : pl first = F at *
      rw [← hlen] at htr hsub
      simp [f11, b11, hlc, e1, htr, hsub, e2]
      exact finish_rt_cut (R := Ob.lst O :: G) rfl hu
  · have hno := short_none hb sd
    rw [hno]
    refine ⟨ps, [Ob.lst O], ?_, sd⟩
    have hpl : ps.length = first.length := by rw [sd.len, hol]
    have hps := lcA_map (l := List.range first.length) (acc := []) (f := lcT P W (callF P W (n + 2)) [some (.lst (pl first)), some (.lst (pl second)), some (.ptr M.length), some (.lst (nl ps)), none, none, none, none, none] (.n 6) .nil (.tup (.cons (.v 6) (.cons (.ix (.v 3) (.v 6)) .nil)))) (g := fun (i : Nat) => D.int (i : Int)) (k := fun i => .tup [.int (i : Int), .int ((ps.getD i 0 : Nat) : Int)]) (M := M ++ [Ob.lst O]) (fun i hi => by
      have hi := range_mem hi
      have : L2.atI (nl ps) (i : Int) = some (.int ((ps.getD i 0 : Nat) : Int)) := atI_nat (by simp [hpl, hi])
      simp [lcT_app, gslots, wipeR, this]) (by simp [big, PySem.sizeLine]; omega)
    have hpp : (List.range first.length).map (fun (i : Nat) => D.tup [.int (i : Int), .int ((ps.getD i 0 : Nat) : Int)]) = yesL ps := by
      unfold yesL
      refine List.ext_getElem (by simp [hpl]) fun i h1 h2 => ?_
      simp at h2
      simp [h2]
    rw [hpp, List.nil_append] at hps
    have hr := rngI_nat (M := M ++ [Ob.lst O]) (show first.length ≤ 16777216 by omega)
    generalize pl second = S at *
    generalize hF : pl first = F at *
    rw [← hlen] at hr hps
    simp [f11, b11, hlc, e1, hr, hps]
    rw [finish_rt_keep (by simp [underD, underDs])]
def atE (f s : List Pc) : Option Er1 := (dropE [f, s]).or (pieceE [f, s])
theorem at_least {first second : List Pc} (hf : first.length ≤ 1000) (hs : second.length ≤ 1000) (hx : ∀ p ∈ first ++ second, p.x.length ≤ 100000) (hn : 10 < n) (hW : 100000 < W) :
    match atE first second with
    | some e => callF P W (n + 4) 12 [.lst (pl first), .lst (pl second)] M = .err e.1 e.2 M
    | none => match shortO (opts first second) second.length with
      | none => ∃ ps R, callF P W (n + 4) 12 [.lst (pl first), .lst (pl second)] M = .ok (.tup [.str "yes", .ptr (M.length + R.length)]) (M ++ R ++ [.lst (yesL ps)]) ∧ Sdr (opts first second) ps
      | some x => callF P W (n + 4) 12 [.lst (pl first), .lst (pl second)] M = .ok (noD (opts first second) second.length x) M := by
  rw [callF_eq (k := f12) rfl rfl]
  have p1 : callF P W (n + 3) 3 [.lst (pl first)] M = .ok (.lst (pl first)) M := piece_rows (n := n + 2) first (by omega)
  have p2 : callF P W (n + 3) 3 [.lst (pl second)] M = .ok (.lst (pl second)) M := piece_rows (n := n + 2) second (by omega)
  have p3 : callF P W (n + 3) 4 [.lst [.lst (pl first), .lst (pl second)], .lst []] M = resE (dropE [first, second]) M := check_drops (n := n) [first, second]
  have p4 : callF P W (n + 3) 5 [.lst [.lst (pl first), .lst (pl second)]] M = resE (pieceE [first, second]) M := check_pieces (n := n + 2) [first, second] (by
    intro l hl p hp
    simp at hl
    rcases hl with rfl | rfl
    · exact hx p (by simp [hp])
    · exact hx p (by simp [hp]))
  unfold atE
  cases h1 : dropE [first, second] with
  | some e =>
    rw [h1] at p3
    generalize pl first = F at *
    generalize pl second = S at *
    simp [f12, b12, p1, p2, p3]
  | none =>
  rw [h1] at p3
  cases h2 : pieceE [first, second] with
  | some e =>
    rw [h2] at p4
    generalize pl first = F at *
    generalize pl second = S at *
    simp [f12, b12, p1, p2, p3, p4]
  | none =>
  rw [h2] at p4
  have hf10 : first.length ≤ 10 := by
    unfold dropE at h1
    simp only [Option.or_eq_none_iff, List.findSome?_cons, List.findSome?_nil] at h1
    have h3 := h1.1
    unfold lenE many at h3
    by_cases hc : 10 < (first.length : Int)
    · rw [if_pos hc] at h3; simp at h3
    · omega
  have hw := laid_word (W := W) (M := M) (n := n) first second hf10 hs (by omega) hW
  simp only [Option.or_none]
  cases h3 : shortO (opts first second) second.length with
  | none =>
    rw [h3] at hw
    obtain ⟨ps, R, e, sd⟩ := hw
    refine ⟨ps, R, ?_, sd⟩
    generalize pl first = F at *
    generalize pl second = S at *
    simp [f12, b12, p1, p2, p3, p4, at0, at1, e]
    rw [finish_rt_keep (by simp [underD, underDs])]
  | some x =>
    rw [h3] at hw
    simp only at hw ⊢
    generalize noD (opts first second) second.length x = Dn at *
    generalize pl first = F at *
    generalize pl second = S at *
    simp [f12, b12, p1, p2, p3, p4, at0, at1, hw]
def hardE (a b : Pc) : Option Er1 := (dropE [[a, b]]).or (pieceE [[a, b]])
theorem is_harder (a b : Pc) (hx : a.x.length ≤ 100000 ∧ b.x.length ≤ 100000) : callF P W (n + 4) 7 [a.D, b.D] M = match hardE a b with | some e => .err e.1 e.2 M | none => .ok (.bl (fits a b)) M := by
  rw [callF_eq (k := f7) rfl rfl]
  have p1 : callF P W (n + 3) 3 [.lst [a.D, b.D]] M = .ok (.lst [a.D, b.D]) M := piece_rows (n := n + 2) [a, b] (by simp)
  have p3 : callF P W (n + 3) 4 [.lst [.lst [a.D, b.D]], .lst []] M = resE (dropE [[a, b]]) M := check_drops (n := n) [[a, b]]
  have p4 : callF P W (n + 3) 5 [.lst [.lst [a.D, b.D]]] M = resE (pieceE [[a, b]]) M := check_pieces (n := n + 2) [[a, b]] (by simp [hx])
  have p6 : callF P W (n + 3) 6 [a.D, b.D] M = .ok (.bl (fits a b)) M := fits_on (n := n + 2) a b
  unfold hardE
  generalize a.D = A at *
  generalize b.D = B at *
  cases h1 : dropE [[a, b]] with
  | some e =>
    rw [h1] at p3
    simp [f7, b7, p1, p3]
  | none =>
  rw [h1] at p3
  cases h2 : pieceE [[a, b]] with
  | some e =>
    rw [h2] at p4
    simp [f7, b7, p1, p3, p4]
  | none =>
  rw [h2] at p4
  simp [f7, b7, p1, p3, p4, at0, at1, p6]
def nameE : Nat → PySem.Str | 1 => "bad" | _ => "many"
theorem told_err {first second : List Pc} {k : Nat} {x : D} (he : atE first second = some (k, [x])) (hk : k = 0 ∨ k = 1) (hf : first.length ≤ 1000) (hs : second.length ≤ 1000) (hx : ∀ p ∈ first ++ second, p.x.length ≤ 100000) (hn : 10 < n) (hW : 100000 < W) :
    callF P W (n + 5) 24 [.lst (pl first), .lst (pl second)] M = .ok (.tup [.str (nameE k), x]) M := by
  have h := at_least (W := W) (M := M) (n := n) hf hs hx hn hW
  rw [he] at h
  rw [callF_eq (k := f24) rfl rfl]
  simp only at h
  rcases hk with rfl | rfl
  · simp [f24, b24, rS_try, h, handle, er0, er1, runH, runH.runHs, getF, nameE]
  · simp [f24, b24, rS_try, h, handle, er0, er1, runH, runH.runHs, getF, nameE]
theorem told_ok {first second : List Pc} (he : atE first second = none) (hf : first.length ≤ 1000) (hs : second.length ≤ 1000) (hx : ∀ p ∈ first ++ second, p.x.length ≤ 100000) (hn : 10 < n) (hW : 100000 < W) :
    match shortO (opts first second) second.length with
      | none => ∃ ps R, callF P W (n + 5) 24 [.lst (pl first), .lst (pl second)] M = .ok (.tup [.str "yes", .ptr (M.length + R.length)]) (M ++ R ++ [.lst (yesL ps)]) ∧ Sdr (opts first second) ps
      | some x => callF P W (n + 5) 24 [.lst (pl first), .lst (pl second)] M = .ok (noD (opts first second) second.length x) M := by
  have h := at_least (W := W) (M := M) (n := n) hf hs hx hn hW
  rw [he] at h
  rw [callF_eq (k := f24) rfl rfl]
  simp only at h
  cases h3 : shortO (opts first second) second.length with
  | none =>
    rw [h3] at h
    obtain ⟨ps, R, e, sd⟩ := h
    refine ⟨ps, R, ?_, sd⟩
    simp [f24, b24, rS_try, e]
    rw [finish_rt_keep (by simp [underD, underDs])]
  | some x =>
    rw [h3] at h
    simp only at h ⊢
    generalize noD (opts first second) second.length x = Dn at *
    simp [f24, b24, rS_try, h]
theorem hard_err {a b : Pc} {k : Nat} {x : D} (he : hardE a b = some (k, [x])) (hk : k = 0 ∨ k = 1) (hx : a.x.length ≤ 100000 ∧ b.x.length ≤ 100000) : callF P W (n + 5) 26 [a.D, b.D] M = .ok (.tup [.str (nameE k), x]) M := by
  have h := is_harder (W := W) (M := M) (n := n) a b hx
  rw [he] at h
  rw [callF_eq (k := f26) rfl rfl]
  simp only at h
  generalize a.D = A at *
  generalize b.D = B at *
  rcases hk with rfl | rfl
  · simp [f26, b26, rS_try, h, handle, er0, er1, runH, runH.runHs, getF, nameE]
  · simp [f26, b26, rS_try, h, handle, er0, er1, runH, runH.runHs, getF, nameE]
theorem hard_ok {a b : Pc} (he : hardE a b = none) (hx : a.x.length ≤ 100000 ∧ b.x.length ≤ 100000) : callF P W (n + 5) 26 [a.D, b.D] M = .ok (.bl (fits a b)) M := by
  have h := is_harder (W := W) (M := M) (n := n) a b hx
  rw [he] at h
  rw [callF_eq (k := f26) rfl rfl]
  simp only at h
  generalize a.D = A at *
  generalize b.D = B at *
  simp [f26, b26, rS_try, h]
end
end K29

/-! Y29 -/
set_option maxRecDepth 100000
set_option maxHeartbeats 4000000
namespace K29
open G
variable {W : Nat}
section
variable {M : Store} {n : Nat}
theorem LsD.walk {x : D} {xs : List D} (h : LsD M x xs) : ∃ w, walkOf M x = some w ∧ Walks M w xs := by
  rcases h with rfl | ⟨k, rfl, e⟩
  · exact ⟨_, rfl, .inl rfl⟩
  · exact ⟨_, walk_ptr e, .inr ⟨k, rfl, e⟩⟩
def S2 (p : Nat → Bool) (m : Nat) : Nat := (((List.range m).filter p).map (2 ^ ·)).sum
theorem S2_succ (p : Nat → Bool) (m : Nat) : S2 p (m + 1) = S2 p m + if p m = true then 2 ^ m else 0 := by
  unfold S2
  rw [List.range_succ, List.filter_append, List.map_append, List.sum_append]
  congr 1
  cases h : p m <;> simp [List.filter, h]
theorem S2_bits (p : Nat → Bool) : ∀ m, S2 p m < 2 ^ m ∧ ∀ j, (S2 p m).testBit j = (decide (j < m) && p j)
  | 0 => ⟨by simp [S2], fun j => by simp [S2]⟩
  | m + 1 => by
    obtain ⟨h1, h2⟩ := S2_bits p m
    rw [S2_succ]
    cases hp : p m with
    | false =>
      simp only [Bool.false_eq_true, if_false, Nat.add_zero]
      refine ⟨Nat.lt_of_lt_of_le h1 (Nat.pow_le_pow_right (by omega) (by omega)), fun j => ?_⟩
      rw [h2]
      by_cases hj : j = m
      · subst hj; simp [hp]
      · have : decide (j < m) = decide (j < m + 1) := by
          by_cases hc : j < m
          · simp [hc]; omega
          · simp [hc]; omega
        rw [this]
    | true =>
      simp only [if_true]
      have hlt : S2 p m + 2 ^ m < 2 ^ (m + 1) := by rw [Nat.pow_succ]; omega
      refine ⟨hlt, fun j => ?_⟩
      rw [Nat.add_comm]
      rcases Nat.lt_trichotomy j m with hj | hj | hj
      · rw [Nat.testBit_two_pow_add_gt hj, h2]
        have : decide (j < m) = decide (j < m + 1) := by simp [hj]; omega
        rw [this]
      · subst hj
        rw [Nat.testBit_two_pow_add_eq, h2]
        simp [hp]
      · rw [Nat.testBit_lt_two_pow (Nat.lt_of_lt_of_le (by rw [Nat.add_comm]; exact hlt) (Nat.pow_le_pow_right (by omega) (by omega)))]
        have : ¬ j < m + 1 := by omega
        simp [this]
theorem bor_nat (a b : Nat) : PySem.Builtin.bitOr (a : Int) (b : Int) = ((a ||| b : Nat) : Int) := by
  unfold PySem.Builtin.bitOr PySem.Builtin.bitAnd PySem.Builtin.bitNot
  have h1 : ¬ (0 : Int) ≤ -(a : Int) - 1 := by omega
  have h2 : ¬ (0 : Int) ≤ -(b : Int) - 1 := by omega
  simp only [h1, h2, decide_false]
  have e1 : (-(-(a : Int) - 1) - 1).toNat = a := by omega
  have e2 : (-(-(b : Int) - 1) - 1).toNat = b := by omega
  rw [e1, e2]
  omega
theorem band1 (a : Nat) : PySem.Builtin.bitAnd (a : Int) 1 = ((a % 2 : Nat) : Int) := by
  unfold PySem.Builtin.bitAnd
  have h1 : (0 : Int) ≤ (a : Int) := by omega
  simp only [h1, decide_true]
  show ((((a : Int).toNat &&& (1 : Int).toNat : Nat)) : Int) = _
  rw [Int.toNat_natCast]
  have : (1 : Int).toNat = 1 := rfl
  rw [this, Nat.and_one_is_mod]
def mk (p : Pc) (second : List Pc) : Nat := S2 (okP p second) second.length
theorem mk_bit (p : Pc) (second : List Pc) (j : Nat) : (mk p second).testBit j = decide (j ∈ opt p second) := by
  unfold mk
  rw [(S2_bits _ _).2]
  unfold opt
  by_cases h : j < second.length
  · cases hk : okP p second j <;> simp [h, hk]
  · simp [h]
def orF (first second : List Pc) (x : List Int) : Nat := x.foldl (fun v a => v ||| (match first[a.toNat]? with | some p => mk p second | none => 0)) 0
theorem orG_bit {first second : List Pc} {j : Nat} : ∀ {x : List Int} {v : Nat}, (x.foldl (fun v a => v ||| (match first[a.toNat]? with | some p => mk p second | none => 0)) v).testBit j = (v.testBit j || x.any fun a => decide (j ∈ optAt (opts first second) a))
  | [], v => by simp
  | a :: x, v => by
    rw [List.foldl_cons, orG_bit, Nat.testBit_or, List.any_cons, Bool.or_assoc]
    congr 2
    unfold optAt opts
    rw [List.getElem?_map]
    cases h : first[a.toNat]? with
    | none => simp
    | some p => simp [mk_bit]
theorem orF_near {first second : List Pc} {x : List Int} : (List.range second.length).filter (fun j => (orF first second x).testBit j) = nearF (opts first second) second.length x := by
  unfold nearF orF
  congr 1
  funext j
  rw [orG_bit]; simp
def rowD (second : List Pc) (p : Pc) : D := .lst (second.map fun q => .bl (fits q p))
def shD (opts : List (List Nat)) (m : Nat) (x : List Int) : D := .tup [.tup (il x), .tup (nl (nearF opts m x))]
theorem shl_ii {i j : Int} (h : 0 ≤ j ∧ j ≤ 1000000 ∧ i.natAbs < 18446744073709551616) : binop .shl (.int i) (.int j) M = .ok (.int (i * 2 ^ j.toNat)) M := if_pos h
theorem shr_ii {i j : Int} (h : 0 ≤ j) : binop .shr (.int i) (.int j) M = .ok (.int (i / 2 ^ j.toNat)) M := if_pos h
theorem shl_1 {j : Nat} (h : j ≤ 1000000) : binop .shl (.int 1) (.int (j : Int)) M = .ok (.int ((2 ^ j : Nat) : Int)) M := by
  have := shl_ii (M := M) (i := 1) (j := (j : Int)) ⟨by omega, by omega, by decide⟩
  rw [this]; simp
theorem shr_n {v j : Nat} : binop .shr (.int (v : Int)) (.int (j : Int)) M = .ok (.int ((v / 2 ^ j : Nat) : Int)) M := by
  rw [shr_ii (by omega)]
  simp
theorem sum_nat (l : List Nat) : (l.map fun (k : Nat) => (k : Int)).sum = ((l.sum : Nat) : Int) := by
  induction l with
  | nil => rfl
  | cons a l ih => rw [List.map_cons, List.sum_cons, ih, List.sum_cons]; simp
theorem rows_lc {X Y : D} {first second : List Pc} (hX : LsD M X (pl first)) (hY : LsD M Y (pl second)) (hf : first.length ≤ 1000) (hs : second.length ≤ 1000) (hx : ∀ q ∈ second, q.x.length ≤ 100000) (hW : 100000 < W) {r : List (Option D)} (hr : r.length = 10) :
    runE P W (callF P W (n + 1)) (some X :: some Y :: r) (.lc false (.n 8) (.val (.v 0)) .nil (.lc false (.n 10) (.val (.v 1)) .nil (.call 17 (.cons (.v 10) (.cons (.v 8) .nil))))) M = .ok (.lst (first.map (rowD second))) M := by
  obtain ⟨w1, h1, h2⟩ := hX.walk
  obtain ⟨w2, h3, h4⟩ := hY.walk
  match r, hr with
  | [a2, a3, a4, a5, a6, a7, a8, a9, a10, a11], _ =>
  have hin : ∀ p ∈ first, lcW (lcT P W (callF P W (n + 1)) [some X, some Y, a2, a3, a4, a5, a6, a7, some p.D, a9, a10, a11] (.n 10) .nil (.call 17 (.cons (.v 10) (.cons (.v 8) .nil)))) W w2 M = .ok (second.map fun q => .bl (fits q p)) M := fun p _ =>
    lcW_map h4 (fun q hq => by
      have e := law_fits (W := W) (n := n) (M := M) q p (hx q hq)
      generalize p.D = A at *
      generalize q.D = B at *
      simp [lcT_app, gslots, wipeR, e, Res.noerr]) (by simp [big, PySem.sizeLine]; omega) (by omega)
  have hout := lcW_map (l := first) (f := lcT P W (callF P W (n + 1)) [some X, some Y, a2, a3, a4, a5, a6, a7, a8, a9, a10, a11] (.n 8) .nil (.lc false (.n 10) (.val (.v 1)) .nil (.call 17 (.cons (.v 10) (.cons (.v 8) .nil))))) (g := Pc.D) (k := rowD second) (M := M) (W := W) h2 (fun p hp => by
      have := hin p hp
      generalize p.D = A at *
      simp [lcT_app, gslots, wipeR, h3, this, rowD, Res.noerr]) (by simp [big, PySem.sizeLine]; omega) (by omega)
  simp [h1, hout]
theorem row_at {p : Pc} {second : List Pc} {j : Nat} (h : j < second.length) : L2.atI (second.map fun q => D.bl (fits q p)) (j : Int) = some (.bl (okP p second j)) := by
  have hg : second[j]? = some second[j] := by simp [h]
  have : okP p second j = fits second[j] p := by unfold okP; rw [hg]
  rw [this]
  exact atI_nat (by simp [h])
theorem masks_lc {X Y : D} {first second : List Pc} (hY : LsD M Y (pl second)) (hf : first.length ≤ 1000) (hs : second.length ≤ 1000) {r : List (Option D)} (hr : r.length = 9) :
    runE P W (callF P W n) (some X :: some Y :: some (.lst (first.map (rowD second))) :: r) (.lc false (.n 9) (.val (.v 2)) .nil (.bi .sum (.cons (.lc false (.n 11) (.rng1 (.bi .len (.cons (.v 1) .nil))) (.cons (.val (.ix (.v 9) (.v 11))) .nil) (.bin .shl (.int 1) (.v 11))) .nil))) M = .ok (.lst (first.map fun p => .int (mk p second : Nat))) M := by
  match r, hr with
  | [a3, a4, a5, a6, a7, a8, a9, a10, a11], _ =>
  have hsq := hY.seq
  have hin : ∀ p ∈ first, ∀ (rows : D), lcA (lcT P W (callF P W n) [some X, some Y, some rows, a3, a4, a5, a6, a7, a8, some (rowD second p), a10, a11] (.n 11) (.cons (.val (.ix (.v 9) (.v 11))) .nil) (.bin .shl (.int 1) (.v 11))) ((List.range second.length).map fun (i : Nat) => D.int (i : Int)) [] M = .ok ([] ++ ((List.range second.length).filter (okP p second)).map fun (j : Nat) => D.int ((2 ^ j : Nat) : Int)) M := fun p _ rows =>
    lcA_filter (g := fun (i : Nat) => D.int (i : Int)) (fun j hj => by
      have hj := range_mem hj
      have ha := row_at (p := p) hj
      have h2 := shl_1 (M := M) (j := j) (by omega)
      unfold rowD
      generalize (second.map fun q => D.bl (fits q p)) = L at *
      cases hk : okP p second j <;> rw [hk] at ha <;> simp [lcT_app, gslots, wipeR, ha, h2, Res.noerr]) (by simp [big, PySem.sizeLine]; omega)
  have hsum : ∀ p : Pc, (intsOf (((List.range second.length).filter (okP p second)).map fun (j : Nat) => D.int ((2 ^ j : Nat) : Int))) = some (((List.range second.length).filter (okP p second)).map fun (j : Nat) => ((2 ^ j : Nat) : Int)) := fun p => by
    have := intsOf_map (((List.range second.length).filter (okP p second)).map fun (j : Nat) => ((2 ^ j : Nat) : Int))
    rw [List.map_map] at this
    exact this
  have hval : ∀ p : Pc, (((List.range second.length).filter (okP p second)).map fun (j : Nat) => ((2 ^ j : Nat) : Int)).sum = ((mk p second : Nat) : Int) := fun p => by
    have := sum_nat (((List.range second.length).filter (okP p second)).map (2 ^ ·))
    rw [List.map_map] at this
    exact this
  have hout := lcA_map (l := first) (acc := []) (f := lcT P W (callF P W n) [some X, some Y, some (.lst (first.map (rowD second))), a3, a4, a5, a6, a7, a8, a9, a10, a11] (.n 9) .nil (.bi .sum (.cons (.lc false (.n 11) (.rng1 (.bi .len (.cons (.v 1) .nil))) (.cons (.val (.ix (.v 9) (.v 11))) .nil) (.bin .shl (.int 1) (.v 11))) .nil))) (g := rowD second) (k := fun p => .int (mk p second : Nat)) (M := M) (fun p hp => by
      have h1 := hin p hp (.lst (first.map (rowD second)))
      have h2 := hsum p
      have h3 := hval p
      have hr := rngI_nat (M := M) (show second.length ≤ 16777216 by omega)
      have hl : (pl second).length = second.length := by simp
      rw [← hl] at hr
      generalize rowD second p = RP at *
      generalize hL : ((List.range second.length).filter (okP p second)).map (fun (j : Nat) => D.int ((2 ^ j : Nat) : Int)) = L at *
      generalize ((List.range second.length).filter (okP p second)).map (fun (j : Nat) => ((2 ^ j : Nat) : Int)) = IL at *
      rw [hl] at hr
      simp [lcT_app, gslots, wipeR, hsq, hr, h1, h2, h3, Res.noerr]) (by simp [big, PySem.sizeLine]; omega)
  rw [List.nil_append] at hout
  generalize (first.map (rowD second)) = R at *
  simp [hout]
theorem mask_loop {first second : List Pc} {x : List Int} (hx : x.Sublist (ri first.length)) {r0 r1 r2 r4 r6 r7 r8 r9 r10 r11 : Option D} :
    ∃ r6', forL (foT P W (callF P W n) (.n 6) b22_1) (il x) [r0, r1, r2, some (.lst (first.map fun p => .int (mk p second : Nat))), r4, some (.int 0), r6, r7, r8, r9, r10, r11] M = some (.nx [r0, r1, r2, some (.lst (first.map fun p => .int (mk p second : Nat))), r4, some (.int (orF first second x : Nat)), r6', r7, r8, r9, r10, r11], M) := by
  have key := forL_rel (l := x) (g := D.int) (f := foT P W (callF P W n) (.n 6) b22_1) (fun (v : Nat) ρ M' => M' = M ∧ ∃ r6, ρ = [r0, r1, r2, some (.lst (first.map fun p => .int (mk p second : Nat))), r4, some (.int (v : Int)), r6, r7, r8, r9, r10, r11]) (fun v a => v ||| (match first[a.toNat]? with | some p => mk p second | none => 0)) (s := 0) (ρ := [r0, r1, r2, some (.lst (first.map fun p => .int (mk p second : Nat))), r4, some (.int 0), r6, r7, r8, r9, r10, r11]) (M := M) ⟨rfl, _, rfl⟩ ?_
  · obtain ⟨ρ', M', e, rfl, r6', rfl⟩ := key
    exact ⟨r6', e⟩
  · rintro a ha v ρ M' ⟨rfl, r6, rfl⟩
    obtain ⟨i, hi, rfl⟩ := part_in hx ha
    have hg : first[i]? = some first[i] := by simp [hi]
    have hat : L2.atI (first.map fun p => D.int (mk p second : Nat)) (i : Int) = some (.int (mk first[i] second : Nat)) := atI_nat (by simp [hi])
    have hbo : ∀ M : Store, binop .bor (.int (v : Int)) (.int ((mk first[i] second : Nat) : Int)) M = .ok (.int ((v ||| mk first[i] second : Nat) : Int)) M := fun M => by
      show Res.ok (D.int (PySem.Builtin.bitOr _ _)) M = _
      rw [bor_nat]
    refine ⟨_, _, ?_, rfl, some (.int (i : Int)), rfl⟩
    rw [Int.toNat_natCast, hg]
    simp only
    generalize mk first[i] second = v2 at *
    generalize hv : (v ||| v2 : Nat) = v3 at *
    generalize (first.map fun p => D.int (mk p second : Nat)) = L at *
    simp [foT_app, b22_1, hat, hbo]
theorem law_turn {X Y : D} {first second : List Pc} (hY : LsD M Y (pl second)) (hs : second.length ≤ 1000) {x : List Int} (hx : x.Sublist (ri first.length)) {r0 r2 r4 r5 r6 r7 r8 r9 r10 r11 : Option D} :
    if few (opts first second) second.length x = true then foT P W (callF P W n) (.n 4) b22_2 (.tup (il x)) [r0, some Y, r2, some (.lst (first.map fun p => .int (mk p second : Nat))), r4, r5, r6, r7, r8, r9, r10, r11] M = some (.rt (shD (opts first second) second.length x), M)
    else ∃ s4 s5 s6 s7, foT P W (callF P W n) (.n 4) b22_2 (.tup (il x)) [r0, some Y, r2, some (.lst (first.map fun p => .int (mk p second : Nat))), r4, r5, r6, r7, r8, r9, r10, r11] M = some (.nx [r0, some Y, r2, some (.lst (first.map fun p => .int (mk p second : Nat))), s4, s5, s6, s7, r8, r9, r10, r11], M) := by
  have hsq := hY.seq
  obtain ⟨r6', e⟩ := mask_loop (W := W) (n := n) (M := M) (second := second) hx (r0 := r0) (r1 := some Y) (r2 := r2) (r4 := some (.tup (il x))) (r6 := r6) (r7 := r7) (r8 := r8) (r9 := r9) (r10 := r10) (r11 := r11)
  have hnf := orF_near (first := first) (second := second) (x := x)
  generalize hv : orF first second x = v at *
  have hlc : lcA (lcT P W (callF P W n) [r0, some Y, r2, some (.lst (first.map fun p => .int (mk p second : Nat))), some (.tup (il x)), some (.int (v : Int)), r6', r7, r8, r9, r10, r11] (.n 11) (.cons (.cmp .eq (.bin .band (.bin .shr (.v 5) (.v 11)) (.int 1)) (.int 1)) .nil) (.v 11)) ((List.range second.length).map fun (i : Nat) => D.int (i : Int)) [] M = .ok ([] ++ ((List.range second.length).filter fun j => v.testBit j).map fun (j : Nat) => D.int (j : Int)) M :=
    lcA_filter (g := fun (i : Nat) => D.int (i : Int)) (fun j hj => by
      have h1 : ∀ M : Store, binop .shr (.int (v : Int)) (.int (j : Int)) M = .ok (.int ((v / 2 ^ j : Nat) : Int)) M := fun M => shr_n
      have h2 : ∀ M : Store, binop .band (.int ((v / 2 ^ j : Nat) : Int)) (.int 1) M = .ok (.int (((v / 2 ^ j) % 2 : Nat) : Int)) M := fun M => by
        show Res.ok (D.int (PySem.Builtin.bitAnd _ _)) M = _
        rw [band1]
      have h3 : ((((v / 2 ^ j) % 2 : Nat) : Int) == 1) = v.testBit j := by
        rw [Nat.testBit_eq_decide_div_mod_eq]
        have : (v / 2 ^ j) % 2 = 0 ∨ (v / 2 ^ j) % 2 = 1 := by omega
        rcases this with h | h <;> rw [h] <;> rfl
      generalize ((v / 2 ^ j % 2 : Nat) : Int) = q at *
      generalize ((v / 2 ^ j : Nat) : Int) = q2 at *
      generalize (first.map fun p => D.int (mk p second : Nat)) = L at *
      cases hb : v.testBit j <;> rw [hb] at h3 <;> simp [lcT_app, gslots, wipeR, h1, h2, h3, Res.noerr]) (by simp [big, PySem.sizeLine]; omega)
  rw [hnf, List.nil_append] at hlc
  have hr := rngI_nat (M := M) (show second.length ≤ 16777216 by omega)
  have hil : (il x).length = x.length := by simp
  have hnl : (nl (nearF (opts first second) second.length x)).length = (nearF (opts first second) second.length x).length := by simp
  have hpl : (pl second).length = second.length := by simp
  unfold few shD
  change lcA _ _ [] M = .ok (nl (nearF (opts first second) second.length x)) M at hlc
  generalize hq : nearF (opts first second) second.length x = q at *
  generalize hnq : nl q = NQ at *
  generalize (first.map fun p => D.int (mk p second : Nat)) = L at *
  generalize hxi : il x = XI at *
  generalize pl second = S at *
  rw [← hpl] at hr hlc
  by_cases h : q.length < x.length
  · rw [if_pos (by simpa using h)]
    simp [foT_app, b22_2, e, hsq, hr, hlc, hil, hnl, h]
  · rw [if_neg (by simpa using h)]
    refine ⟨some (.tup XI), some (.int (v : Int)), r6', some (.lst NQ), ?_⟩
    simp [foT_app, b22_2, e, hsq, hr, hlc, hil, hnl, h]
def shO (o : Option (List Int)) (opts : List (List Nat)) (m : Nat) : D := match o with | none => .non | some x => shD opts m x
theorem law_short {X Y : D} {first second : List Pc} (hX : LsD M X (pl first)) (hY : LsD M Y (pl second)) (hf : first.length ≤ 10) (hs : second.length ≤ 1000) (hx : ∀ q ∈ second, q.x.length ≤ 100000) (hW : 100000 < W) :
    callF P W (n + 2) 22 [X, Y] M = .ok (shO (shortO (opts first second) second.length) (opts first second) second.length) M := by
  rw [callF_eq (k := f22) rfl rfl]
  have e1 := rows_lc (W := W) (n := n) hX hY (by omega) hs hx hW (r := [none, none, none, none, none, none, none, none, none, none]) rfl
  have e2 := masks_lc (W := W) (n := n + 1) (X := X) (first := first) hY (by omega) hs (r := [none, none, none, none, none, none, none, none, none]) rfl
  have hsub := law_subsets (W := W) (M := M) (n := n) (ri first.length) (by simp [ri]; omega)
  have hri : lrgI false (first.length : Int) M = .ok (.lst (il (ri first.length))) M := by rw [lrgI_nat (by omega)]; simp [ri, il]
  have hsq := hX.seq
  have hpl : (pl first).length = first.length := by simp
  have key := forL_ret (l := sortT (subsL (ri first.length))) (g := tupD) (f := foT P W (callF P W (n + 1)) (.n 4) b22_2) (fun ρ M' => M' = M ∧ ∃ r4 r5 r6 r7, ρ = [some X, some Y, some (.lst (first.map (rowD second))), some (.lst (first.map fun p => .int (mk p second : Nat))), r4, r5, r6, r7, none, none, none, none]) (fun x => if few (opts first second) second.length x = true then some (shD (opts first second) second.length x) else none) (ρ := [some X, some Y, some (.lst (first.map (rowD second))), some (.lst (first.map fun p => .int (mk p second : Nat))), none, none, none, none, none, none, none, none]) (M := M) ⟨rfl, _, _, _, _, rfl⟩ (fun _ _ h => h.1) ?_
  · rw [find_map] at key
    have hol := opts_len first second
    have hTT : (sortT (subsL (ri first.length))).map tupD = tl (sortT (subsL (ri first.length))) := rfl
    rw [hTT] at key
    unfold shortO
    rw [hol]
    generalize hT : tl (sortT (subsL (ri first.length))) = TT at *
    generalize hL : (first.map fun p => D.int (mk p second : Nat)) = L at *
    generalize hRL : (first.map (rowD second)) = RL at *
    generalize pl first = F at *
    generalize il (ri first.length) = RI at *
    rw [← hpl] at hri
    have hb : f22.body = b22 := rfl
    have hm : [X, Y].map some ++ List.replicate (f22.names.length - f22.np) none = [some X, some Y, none, none, none, none, none, none, none, none, none, none] := rfl
    have ht : f22.trunc = true := rfl
    rw [hb, hm, ht]
    simp only [b22, rSs_cons, rSs_nil, rS_asg, e1, zwith_ok, bindG_n, oO_some, List.set_cons_succ, List.set_cons_zero, zthen_nx, e2]
    cases h : (sortT (subsL (ri first.length))).find? (few (opts first second) second.length) with
    | none =>
      rw [h] at key
      obtain ⟨ρ', e, _, r4, r5, r6, r7, rfl⟩ := key
      simp [hsq, hri, hsub, e, shO]
    | some x =>
      rw [h] at key
      simp only [Option.map_some] at key
      simp [hsq, hri, hsub, key, shO]
  · rintro x hx ρ ⟨_, r4, r5, r6, r7, rfl⟩
    have := law_turn (W := W) (n := n + 1) (X := X) (first := first) hY hs (mem_parts.mp hx) (r0 := some X) (r2 := some (.lst (first.map (rowD second)))) (r4 := r4) (r5 := r5) (r6 := r6) (r7 := r7) (r8 := none) (r9 := none) (r10 := none) (r11 := none)
    by_cases h : few (opts first second) second.length x = true
    · rw [if_pos h] at this ⊢
      exact this
    · rw [if_neg h] at this ⊢
      obtain ⟨s4, s5, s6, s7, e⟩ := this
      exact ⟨_, e, rfl, _, _, _, _, rfl⟩
end
end K29

/-! Z29 -/
set_option maxRecDepth 100000
set_option maxHeartbeats 4000000
namespace K29
open G
variable {W : Nat}
section
variable {M : Store} {n : Nat}
theorem yes_at {ps : List Nat} {i : Nat} (h : i < ps.length) : L2.atI (yesL ps) (i : Int) = some (.tup [.int (i : Int), .int (ps[i] : Nat)]) := by
  unfold yesL
  exact atI_nat (by simp [h])
theorem yes_len (ps : List Nat) : (yesL ps).length = ps.length := by simp [yesL]
theorem sdr_fits {first second : List Pc} {ps : List Nat} (sd : Sdr (opts first second) ps) {i : Nat} (h : i < ps.length) : ∃ p q, first[i]? = some p ∧ second[ps[i]]? = some q ∧ fits q p = true := by
  have hlen : ps.length = first.length := by rw [sd.len]; exact opts_len _ _
  have hf : first[i]? = some (first[i]'(by omega)) := by simp
  have hp : ps[i]? = some ps[i] := by simp [h]
  have ho : (opts first second)[i]? = some (opt (first[i]'(by omega)) second) := by unfold opts; rw [List.getElem?_map, hf]; rfl
  have hm := sd.mem i _ _ hp ho
  unfold opt at hm
  obtain ⟨h1, h2⟩ := List.mem_filter.mp hm
  unfold okP at h2
  cases hq : second[ps[i]]? with
  | none => rw [hq] at h2; cases h2
  | some q => rw [hq] at h2; exact ⟨_, q, hf, rfl, h2⟩
theorem isTy_t {xs : List D} : isTy M .tuple (.tup xs) = some true := rfl
theorem isTy_ib {i : Int} : isTy M .bool (.int i) = some false := rfl
theorem isTy_ii {i : Int} : isTy M .int (.int i) = some true := rfl
theorem pairs_right {X Y : D} {first second : List Pc} {ps : List Nat} {k : Nat} (hX : LsD M X (pl first)) (hY : LsD M Y (pl second)) (hk : M[k]? = some (.lst (yesL ps))) (sd : Sdr (opts first second) ps) (hf : first.length ≤ 1000) (hx : ∀ q ∈ second, q.x.length ≤ 100000) :
    callF P W (n + 2) 23 [X, Y, .ptr k] M = .ok (.bl true) M := by
  rw [callF_eq (k := f23) rfl rfl]
  have hlen : ps.length = first.length := by rw [sd.len]; exact opts_len _ _
  have key := forL_inv (l := List.range ps.length) (g := fun (i : Nat) => D.int (i : Int)) (f := foT P W (callF P W (n + 1)) (.n 4) b23_1) (fun i ρ M' => M' = M ++ [.lst (nl (ps.take i))] ∧ ∃ a z, ρ = [some X, some Y, some (.ptr k), some (.ptr M.length), a, z]) (ρ := [some X, some Y, some (.ptr k), some (.ptr M.length), none, none]) (M := M ++ [.lst []]) ⟨by simp, _, _, rfl⟩ ?_
  · obtain ⟨ρ', M', e, rfl, a, z, rfl⟩ := key
    have hXs := hX.seq
    have hyl := yes_len ps
    have hkk : k < M.length := (List.getElem?_eq_some_iff.mp hk).1
    have hk2 : (M ++ [Ob.lst []])[k]? = some (.lst (yesL ps)) := by rw [List.getElem?_append_left hkk, hk]
    have hty : isTy M .list (.ptr k) = some true := isTy_p hk
    have hpl : (pl first).length = first.length := by simp
    simp only [List.length_range, List.take_length] at e
    have hr := rngI_nat (M := M ++ [Ob.lst []]) (show ps.length ≤ 16777216 by omega)
    generalize yesL ps = YL at *
    generalize pl first = F at *
    rw [← hyl] at hr e
    have hne : (((YL.length : Nat) : Int) == (F.length : Int)) = true := by rw [hyl, hpl, hlen]; simp
    simp [f23, b23, hty, hk, hXs, hne, hk2, hr, e]
    exact finish_rt_cut rfl rfl
  · rintro _ i ρ M' hi ⟨rfl, a, z, rfl⟩
    obtain ⟨hi, rfl⟩ := range_get hi
    obtain ⟨p, q, hp, hq, hfit⟩ := sdr_fits sd hi
    have hkk : k < M.length := (List.getElem?_eq_some_iff.mp hk).1
    have hk2 : (M ++ [Ob.lst (nl (ps.take i))])[k]? = some (.lst (yesL ps)) := by rw [List.getElem?_append_left hkk, hk]
    have hat := yes_at hi
    have hYs := (hY.app (N := [Ob.lst (nl (ps.take i))])).seq
    have hXs := (hX.app (N := [Ob.lst (nl (ps.take i))])).seq
    have hqn := (List.getElem?_eq_some_iff.mp hq).1
    have hqa := pl_get hq
    have hpa := pl_get hp
    have hnin : ps[i] ∉ ps.take i := by
      intro hm
      obtain ⟨j, hj, e⟩ := List.getElem_of_mem hm
      simp at hj e
      exact absurd (nodup_get sd.nd (i := j) (j := i) (r := ps[i]) (by rw [List.getElem?_eq_getElem (by omega), e]) (by simp [hi])) (by omega)
    have hin : cmpop .inn (.int (ps[i] : Nat)) (.ptr M.length) (M ++ [Ob.lst (nl (ps.take i))]) = .ok (.bl false) (M ++ [Ob.lst (nl (ps.take i))]) := by
      rw [inn_il (l := (ps.take i).map fun (k : Nat) => (k : Int)) (by simp [seq_nl])]
      have : ¬ ((ps[i] : Nat) : Int) ∈ (ps.take i).map fun (k : Nat) => (k : Int) := by
        intro hm
        obtain ⟨x, hx, e⟩ := List.mem_map.mp hm
        have : x = ps[i] := by omega
        exact hnin (this ▸ hx)
      rw [decide_eq_false this]
    have hlf : callF P W (n + 1) 17 [q.D, p.D] (M ++ [Ob.lst (nl (ps.take i))]) = .ok (.bl true) (M ++ [Ob.lst (nl (ps.take i))]) := by
      rw [law_fits q p (hx q (List.mem_of_getElem? hq)), hfit]
    have hch : (0 : Int) ≤ ((ps[i] : Nat) : Int) := by omega
    have hcl : ((ps[i] : Nat) : Int) < ((pl second).length : Nat) := by simp; omega
    have ht : nl (ps.take (i + 1)) = nl (ps.take i) ++ [.int (ps[i] : Nat)] := by
      rw [List.take_succ_eq_append_getElem hi, nl, List.map_append]; rfl
    have hbig : (nl (ps.take i)).length < big := by simp [big, PySem.sizeLine]; omega
    refine ⟨[some X, some Y, some (.ptr k), some (.ptr M.length), some (.int (i : Int)), some (.tup [.int (i : Int), .int (ps[i] : Nat)])], M ++ [.lst (nl (ps.take i) ++ [.int (ps[i] : Nat)])], ?_, by rw [ht], _, _, rfl⟩
    have hpD : D.tup [.tup (il p.x), .int p.d] = p.D := rfl
    have hqD : D.tup [.tup (il q.x), .int q.d] = q.D := rfl
    rw [hpD] at hpa
    rw [hqD] at hqa
    generalize p.D = PD at *
    generalize q.D = QD at *
    generalize nl (ps.take i) = L at *
    generalize yesL ps = YL at *
    generalize pl second = S at *
    generalize pl first = F at *
    generalize ((ps[i] : Nat) : Int) = v at *
    have hdx : dicOf (M ++ [Ob.lst L]) X = none := by
      rcases hX.app (N := [Ob.lst L]) with rfl | ⟨k', rfl, e⟩
      · rfl
      · simp [e]
    have hdy : dicOf (M ++ [Ob.lst L]) Y = none := by
      rcases hY.app (N := [Ob.lst L]) with rfl | ⟨k', rfl, e⟩
      · rfl
      · simp [e]
    simp [foT_app, b23_1, hk2, hat, isTy_t, isTy_ib, isTy_ii, at0, at1, hYs, hXs, hch, hcl, hin, hqa, hpa, hlf, hbig, hdx, hdy]
end
end K29

/-! AA29 -/
set_option maxRecDepth 100000
set_option maxHeartbeats 4000000
namespace K29
open G
variable {W : Nat}
section
variable {M : Store} {n : Nat}
theorem okd_p {k : Nat} (p : Pc) : okd (k + 2) p.D = true := by
  rw [pc_D, okd]
  simp only [List.all_cons, List.all_nil, Bool.and_true, Bool.and_eq_true]
  refine ⟨?_, rfl⟩
  rw [okd]; exact okd_il
theorem okd_pl {k : Nat} {l : List Pc} : okd (k + 3) (.lst (pl l)) = true := by
  rw [okd, List.all_eq_true]
  intro x hx
  obtain ⟨p, _, rfl⟩ := List.mem_map.mp hx
  exact okd_p p
theorem LsD.top {x : D} {xs : List D} (h : LsD M x xs) : G.top M x = .lst xs := by
  rcases h with rfl | ⟨k, rfl, e⟩
  · rfl
  · simp only [G.top, e]
theorem ne_ls {X : D} {l : List Pc} (h : LsD M X (pl l)) : cmpop .ne (.lst (pl l)) X M = .ok (.bl false) M := by
  have ht := h.top
  rw [ne_dd (by rw [top_lst]; exact okd_pl) (by rw [ht]; exact okd_pl), ht, top_lst, eqd_refl (.lst (pl l)) 12 okd_pl]; rfl
theorem copy_lc {X : D} {l : List Pc} {ρ : Rho} {i j : Nat} (hX : LsD M X (pl l)) (hl : l.length ≤ 1000) (hi : ρ[i]? = some (some X)) (hj : ∀ d : Option D, ((ρ.set j none).set j d)[j]? = some d) (hW : 100000 < W) :
    runE P W (callF P W n) ρ (.lc false (.n j) (.val (.v i)) .nil (.v j)) M = .ok (.lst (pl l)) M := by
  obtain ⟨w1, h1, h2⟩ := hX.walk
  have hout := lcW_map (l := l) (f := lcT P W (callF P W n) ρ (.n j) .nil (.v j)) (g := Pc.D) (k := Pc.D) (M := M) (W := W) h2 (fun p hp => by
    have := hj (some p.D)
    generalize p.D = A at *
    simp at this
    simp [lcT_app, gslots, wipeR, this, Res.noerr]) (by simp [big, PySem.sizeLine]; omega) (by omega)
  simp [hi, h1, hout]
theorem sy : PySem.PyData.strOk "yes" = true := by decide +kernel
theorem sn : PySem.PyData.strOk "no" = true := by decide +kernel
theorem nl_okd {k : Nat} {l : List Nat} : (nl l).all (okd k) = true := by simp [nl, okd]
theorem ne_yes : cmpop .ne (.str "yes") (.str "yes") M = .ok (.bl false) M := ne_same (by simp [G.top, okd, sy])
theorem ne_no {opts : List (List Nat)} {m : Nat} {x : List Int} : cmpop .ne (noD opts m x) (noD opts m x) M = .ok (.bl false) M := ne_same (by
  unfold noD
  rw [top_tup, okd]
  simp only [List.all_cons, List.all_nil, Bool.and_true, Bool.and_eq_true]
  refine ⟨by simp [okd, sn], by rw [okd]; exact okd_il, by rw [okd]; exact nl_okd⟩)
theorem right_turn {X Y : D} {first second : List Pc} {i : Int} {r5 r6 r7 r8 : Option D} (hX : LsD M X (pl first)) (hY : LsD M Y (pl second)) (he : atE first second = none) (hf : first.length ≤ 1000) (hs : second.length ≤ 1000) (hx : ∀ p ∈ first ++ second, p.x.length ≤ 100000) (hn : 10 < n) (hW : 100000 < W) :
    ∃ G r6' r8', foT P W (callF P W (n + 5)) (.n 5) b25_1 (.int i) [some X, some Y, some (shO (shortO (opts first second) second.length) (opts first second) second.length), some (.lst (pl first)), some (.lst (pl second)), r5, r6, r7, r8] M =
      some (.nx [some X, some Y, some (shO (shortO (opts first second) second.length) (opts first second) second.length), some (.lst (pl first)), some (.lst (pl second)), some (.int i), r6', r7, r8'], M ++ G) := by
  have ht := told_ok (W := W) (M := M) (n := n) he hf hs hx hn hW
  cases h : shortO (opts first second) second.length with
  | none =>
    rw [h] at ht
    obtain ⟨ps, R, e, sd⟩ := ht
    have hX2 := hX.app (N := R ++ [.lst (yesL ps)])
    have hY2 := hY.app (N := R ++ [.lst (yesL ps)])
    rw [← List.append_assoc] at hX2 hY2
    have n1 := ne_ls hX2
    have n2 := ne_ls hY2
    have hpr := pairs_right (W := W) (n := n + 3) (k := M.length + R.length) hX2 hY2 (by simp) sd hf (fun q hq => hx q (by simp [hq]))
    have hN : n + 3 + 2 = n + 5 := rfl
    rw [hN] at hpr
    have hbig : (yesL ps).length < big := by rw [yes_len, sd.len, opts_len]; simp [big, PySem.sizeLine]; omega
    refine ⟨R ++ [.lst (yesL ps ++ [.tup [.int 0, .int 0]])], some (.tup [.str "yes", .ptr (M.length + R.length)]), some (.ptr (M.length + R.length)), ?_⟩
    have hy := fun M => ne_yes (M := M)
    generalize yesL ps = YL at *
    generalize pl first = F at *
    generalize pl second = S at *
    simp only [shO]
    have hgp : (M ++ R ++ [Ob.lst YL])[M.length + R.length]? = some (.lst YL) := by
      rw [← List.length_append]; exact st0
    have hsp : (M ++ R ++ [Ob.lst YL]).set (M.length + R.length) (.lst (YL ++ [.tup [.int 0, .int 0]])) = M ++ (R ++ [Ob.lst (YL ++ [.tup [.int 0, .int 0]])]) := by
      rw [← List.length_append, se0, List.append_assoc]
    generalize hst : M ++ R ++ [Ob.lst YL] = N at *
    generalize M.length + R.length = kk at *
    simp [foT_app, b25_1, e, n1, n2, isTy_t, at0, at1, hy, hpr, hgp, hbig, hsp]
  | some x =>
    rw [h] at ht
    simp only at ht
    refine ⟨[], some (noD (opts first second) second.length x), r8, ?_⟩
    have n1 := ne_ls hX
    have n2 := ne_ls hY
    have n3 := ne_no (M := M) (opts := opts first second) (m := second.length) (x := x)
    unfold noD at ht n3 ⊢
    simp only [shO, shD]
    generalize pl first = F at *
    generalize pl second = S at *
    generalize il x = XI at *
    generalize nl (nearF (opts first second) second.length x) = NF at *
    simp [foT_app, b25_1, ht, n1, n2, isTy_t, at0, at1, n3]
theorem law_right {X Y : D} {first second : List Pc} (hX : LsD M X (pl first)) (hY : LsD M Y (pl second)) (he : atE first second = none) (hf : first.length ≤ 10) (hs : second.length ≤ 1000) (hx : ∀ p ∈ first ++ second, p.x.length ≤ 100000) (hn : 10 < n) (hW : 100000 < W) :
    callF P W (n + 6) 25 [X, Y] M = .ok (.bl true) M := by
  rw [callF_eq (k := f25) rfl rfl]
  have h1 : callF P W (n + 5) 22 [X, Y] M = .ok (shO (shortO (opts first second) second.length) (opts first second) second.length) M := law_short (n := n + 3) hX hY hf hs (fun q hq => hx q (by simp [hq])) hW
  have key := forL_inv (l := [0, 1]) (g := D.int) (f := foT P W (callF P W (n + 5)) (.n 5) b25_1) (fun i ρ M' => (∃ G, M' = M ++ G) ∧ ∃ a b d, ρ = [some X, some Y, some (shO (shortO (opts first second) second.length) (opts first second) second.length), some (.lst (pl first)), some (.lst (pl second)), a, b, none, d])
    (ρ := [some X, some Y, some (shO (shortO (opts first second) second.length) (opts first second) second.length), some (.lst (pl first)), some (.lst (pl second)), none, none, none, none]) (M := M) ⟨⟨[], by simp⟩, _, _, _, rfl⟩ ?_
  · obtain ⟨ρ', M', e, ⟨G, rfl⟩, a, b, d, rfl⟩ := key
    have c1 := copy_lc (W := W) (n := n + 5) (ρ := [some X, some Y, some (shO (shortO (opts first second) second.length) (opts first second) second.length), none, none, none, none, none, none]) (i := 0) (j := 7) hX (by omega) rfl (fun d => rfl) hW
    have c2 := copy_lc (W := W) (n := n + 5) (ρ := [some X, some Y, some (shO (shortO (opts first second) second.length) (opts first second) second.length), some (.lst (pl first)), none, none, none, none, none]) (i := 1) (j := 7) hY hs rfl (fun d => rfl) hW
    have hr : rngI 2 M = .ok (.items ([0, 1].map D.int)) M := rngI_nat (k := 2) (by omega)
    generalize shO (shortO (opts first second) second.length) (opts first second) second.length = SH at *
    generalize pl first = F at *
    generalize pl second = S at *
    have hb : f25.body = b25 := rfl
    have hm : [X, Y].map some ++ List.replicate (f25.names.length - f25.np) none = [some X, some Y, none, none, none, none, none, none, none] := rfl
    have ht : f25.trunc = true := rfl
    rw [hb, hm, ht]
    generalize hli : [0, 1].map D.int = LI at *
    simp only [b25, rSs_cons, rSs_nil, rS_asg, rE_call, rA_cons, rA_nil, rE_v, List.getElem?_cons_zero, List.getElem?_cons_succ, onV_some, zbind_ok, h1, zwith_ok, bindG_n, oO_some, List.set_cons_succ, List.set_cons_zero, zthen_nx, c1, c2]
    simp [hr, e]
    exact finish_rt_cut rfl rfl
  · rintro i a ρ M' hi ⟨⟨G, rfl⟩, b, c, d, rfl⟩
    obtain ⟨G', r6, r8, e⟩ := right_turn (W := W) (n := n) (i := a) (r5 := b) (r6 := c) (r7 := none) (r8 := d) (hX.app (N := G)) (hY.app (N := G)) he (by omega) hs hx hn hW
    exact ⟨_, _, e, ⟨G ++ G', by rw [List.append_assoc]⟩, _, _, _, rfl⟩
theorem isTy_bb {b : Bool} : isTy M .bool (.bl b) = some true := rfl
theorem harder_right {lot : List Pc} (hh : ∀ a ∈ lot, ∀ b ∈ lot, hardE a b = none) (hx : ∀ p ∈ lot, p.x.length ≤ 100000) : callF P W (n + 6) 27 [.lst (pl lot)] M = .ok (.bl true) M := by
  rw [callF_eq (k := f27) rfl rfl]
  have kin : ∀ a ∈ lot, ∀ r2 r3, ∃ r2' r3', forL (foT P W (callF P W (n + 5)) (.n 2) b27_1) (pl lot) [some (.lst (pl lot)), some a.D, r2, r3] M = some (.nx [some (.lst (pl lot)), some a.D, r2', r3'], M) := by
    intro a ha r2 r3
    have key := forL_inv (l := lot) (g := Pc.D) (f := foT P W (callF P W (n + 5)) (.n 2) b27_1) (fun i ρ M' => M' = M ∧ ∃ r2 r3, ρ = [some (.lst (pl lot)), some a.D, r2, r3]) (ρ := [some (.lst (pl lot)), some a.D, r2, r3]) (M := M) ⟨rfl, _, _, rfl⟩ ?_
    · obtain ⟨ρ', M', e, rfl, r2', r3', rfl⟩ := key
      exact ⟨_, _, e⟩
    · rintro i b ρ M' hi ⟨rfl, r2, r3, rfl⟩
      have hb := List.mem_of_getElem? hi
      have h1 := hard_ok (W := W) (M := M') (n := n) (hh a ha b hb) ⟨hx a ha, hx b hb⟩
      have h2 : callF P W (n + 5) 17 [a.D, b.D] M' = .ok (.bl (fits a b)) M' := law_fits (n := n + 4) a b (hx a ha)
      have h3 : cmpop .ne (.bl (fits a b)) (.bl (fits a b)) M' = .ok (.bl false) M' := ne_same rfl
      refine ⟨[some (.lst (pl lot)), some a.D, some b.D, some (.bl (fits a b))], M', ?_, rfl, _, _, rfl⟩
      generalize a.D = A at *
      generalize b.D = B at *
      generalize pl lot = L at *
      simp [foT_app, b27_1, h1, isTy_bb, h2, h3]
  have key := forL_inv (l := lot) (g := Pc.D) (f := foT P W (callF P W (n + 5)) (.n 1) b27_2) (fun i ρ M' => M' = M ∧ ∃ r1 r2 r3, ρ = [some (.lst (pl lot)), r1, r2, r3]) (ρ := [some (.lst (pl lot)), none, none, none]) (M := M) ⟨rfl, _, _, _, rfl⟩ ?_
  · obtain ⟨ρ', M', e, rfl, r1, r2', r3', rfl⟩ := key
    change forL _ (pl lot) _ _ = _ at e
    generalize pl lot = L at *
    simp [f27, b27, e]
  · rintro i a ρ M' hi ⟨rfl, r1, r2, r3, rfl⟩
    obtain ⟨r2', r3', e⟩ := kin a (List.mem_of_getElem? hi) r2 r3
    refine ⟨[some (.lst (pl lot)), some a.D, r2', r3'], M', ?_, rfl, _, _, _, rfl⟩
    generalize a.D = A at *
    generalize pl lot = L at *
    simp [foT_app, b27_2, e]
end
end K29

/-! AB29 -/
set_option maxRecDepth 100000
set_option maxHeartbeats 4000000
namespace K29
open G
variable {W : Nat}
section
variable {M : Store} {n : Nat}
theorem lcA_pairs {α β : Type} {f : D → Store → Res (Option D)} {g : α → D} (k : β → D) (I : Store → Prop) (p : α → β → Prop) : ∀ {l : List α} {acc : List D} {M : Store}, (∀ a ∈ l, ∀ M, I M → ∃ b M', f (g a) M = .ok (some (k b)) M' ∧ I M' ∧ p a b) → I M → acc.length + l.length ≤ big →
    ∃ (ps : List (α × β)) (M' : Store), lcA f (l.map g) acc M = .ok (acc ++ ps.map fun q => k q.2) M' ∧ I M' ∧ ps.map Prod.fst = l ∧ ∀ q ∈ ps, p q.1 q.2
  | [], acc, M, _, i, _ => ⟨[], M, by simp [lcA], i, rfl, by simp⟩
  | a :: l, acc, M, h, i, hb => by
    rw [List.length_cons] at hb
    obtain ⟨b, M', e, i', pb⟩ := h a List.mem_cons_self M i
    obtain ⟨ps, M2, e2, i2, hl, hp⟩ := lcA_pairs k I p (acc := acc ++ [k b]) (fun b hb => h b (List.mem_cons_of_mem _ hb)) i' (by simp; omega)
    refine ⟨(a, b) :: ps, M2, ?_, i2, by simp [hl], ?_⟩
    · rw [List.map_cons, lcA, e, bind_ok]
      simp only
      rw [if_pos (by omega), e2]
      simp
    · intro q hq
      rcases List.mem_cons.mp hq with rfl | hq
      · exact pb
      · exact hp q hq
theorem lcH_pairs {α β : Type} {f : D → Store → Res (Option D)} {g : α → D} (k : β → D) (I : Store → Prop) (p : α → β → Prop) {l : List α} {j W : Nat} {M : Store} (hj : ∀ M, I M → M[j]? = some (.lst (l.map g))) (h : ∀ a ∈ l, ∀ M, I M → ∃ b M', f (g a) M = .ok (some (k b)) M' ∧ I M' ∧ p a b) (hI : I M) (hb : l.length ≤ big) (hW : l.length < W) :
    ∃ (ps : List (α × β)) (M' : Store), lcW f W (.hot j) M = .ok (ps.map fun q => k q.2) M' ∧ I M' ∧ ps.map Prod.fst = l ∧ ∀ q ∈ ps, p q.1 q.2 := by
  have key : ∀ (m i w : Nat) (acc : List D) (M : Store), i + m = l.length → m < w → I M → acc.length = i → ∃ (ps : List (α × β)) (M' : Store), lcH j f w i acc M = .ok (acc ++ ps.map fun q => k q.2) M' ∧ I M' ∧ ps.map Prod.fst = l.drop i ∧ ∀ q ∈ ps, p q.1 q.2 := by
    intro m
    induction m with
    | zero =>
      intro i w acc M hi hw hI ha
      obtain ⟨w, rfl⟩ : ∃ v, w = v + 1 := ⟨w - 1, by omega⟩
      have e : i = l.length := by omega
      subst e
      exact ⟨[], M, by simp [lcH, hj M hI], hI, by simp, by simp⟩
    | succ m ih =>
      intro i w acc M hi hw hI ha
      obtain ⟨w, rfl⟩ : ∃ v, w = v + 1 := ⟨w - 1, by omega⟩
      have hlt : i < l.length := by omega
      have hg : (l.map g)[i]? = some (g l[i]) := by simp [hlt]
      obtain ⟨b, M', e, i', pb⟩ := h _ (List.getElem_mem hlt) M hI
      obtain ⟨ps, M2, e2, i2, hl, hp⟩ := ih (i + 1) w (acc ++ [k b]) M' (by omega) (by omega) i' (by simp [ha])
      refine ⟨(l[i], b) :: ps, M2, ?_, i2, by rw [List.map_cons, hl, List.drop_eq_getElem_cons hlt], ?_⟩
      · rw [lcH]
        simp only [hj M hI, hg, e, bind_ok]
        rw [if_pos (by omega), e2]
        simp
      · intro q hq
        rcases List.mem_cons.mp hq with rfl | hq
        · exact pb
        · exact hp q hq
  simpa using key l.length 0 W [] M (by omega) hW hI rfl
def Cl (G : Store) : Prop := ∀ k, G.all (underO k) = true
theorem Cl.snoc {G : Store} {xs : List D} (h : Cl G) (hx : ∀ k, underDs k xs = true) : Cl (G ++ [.lst xs]) := fun k => by
  rw [List.all_append, h k]
  simp [underO, hx]
theorem Cl.pu {R : Store} (h : Cl R) (p : Int × Int × Int) (k : Nat) : (pu p :: R).all (underO k) = true := by
  rw [List.all_cons, h k]
  simp [underO, underDs, underD]
structure VQ (pool : List Int) (q : Pc) : Prop where
  v : VP q
  sub : ∀ s ∈ q.x, s ∈ pool
theorem min3 {k : Nat} : birun .min2 [.int 3, .int (k : Int)] M = .ok (.int (min 3 k : Nat)) M := by
  rw [bi_min2]
  congr 2
  split <;> omega
theorem law_piece (p : Int × Int × Int) (pool : List Int) (most : Nat) {R : Store} (hp : PO pool) (hm : 1 ≤ most ∧ most ≤ 30) (hR : Cl R) : ∃ q p', VQ pool q ∧ callF P W (n + 3) 18 [.ptr 0, .lst (il pool), .int most] (pu p :: R) = .ok q.D (pu p' :: R) := by
  rw [callF_eq (k := f18) rfl rfl]
  obtain ⟨zs, p1, hz, e1⟩ := mix_il (W := W) (n := n) p pool R (by have := hp.len; omega) (hR _)
  obtain ⟨v, p2, hv2, e2⟩ := drawN (W := W) (n := n + 1) p1 (min 3 pool.length) (by have := hp.len; omega) (by omega) R
  obtain ⟨d, p3, hd, e3⟩ := drawN (W := W) (n := n + 1) p2 most hm.1 (by omega) R
  have hc : cutd (il zs) none (some (1 + (v : Int))) = il (zs.take (1 + v)) := by
    have := cut_to (xs := il zs) (k := 1 + v)
    rw [show ((1 + v : Nat) : Int) = 1 + (v : Int) by omega] at this
    rw [this]; simp [il, List.map_take]
  have hs : ∀ M : Store, srtD false (intsOf (il (zs.take (1 + v)))) (pairsOf (il (zs.take (1 + v)))) M = .ok (.lst (il (sortI (zs.take (1 + v))))) M := fun M => by
    rw [intsOf_il]; rfl
  have hpo := hp.perm hz
  have hv3 : VP ⟨sortI (zs.take (1 + v)), 1 + (d : Int)⟩ := sort_inc hp ((hpo.nd).sublist (List.take_sublist _ _)) (fun s hs => hz.mem_iff.mp (List.mem_of_mem_take hs)) (take_ne hpo.ne (by omega)) (by omega) (by omega)
  have hsub : ∀ s ∈ sortI (zs.take (1 + v)), s ∈ pool := fun s hs => hz.mem_iff.mp (List.mem_of_mem_take ((sortI_perm _).mem_iff.mp hs))
  refine ⟨⟨sortI (zs.take (1 + v)), 1 + (d : Int)⟩, p3, ⟨hv3, hsub⟩, ?_⟩
  generalize sortI (zs.take (1 + v)) = sk at *
  generalize il (zs.take (1 + v)) = X at hc hs
  have hN : n + 1 + 1 = n + 2 := rfl
  rw [hN] at e2 e3
  have hmm : ((min 3 pool.length : Nat) : Int) = if (pool.length : Int) < 3 then (pool.length : Int) else 3 := by split <;> omega
  rw [hmm] at e2
  simp [f18, b18, e1, e2, hc, hs, e3, Pc.D]
  exact finish_rt_same rfl
theorem law_lot (p : Int × Int × Int) (pool : List Int) (most many : Nat) {R : Store} (hp : PO pool) (hm : 1 ≤ most ∧ most ≤ 30) (hk : many ≤ 1000) (hR : Cl R) : ∃ lot p', lot.length = many ∧ (∀ q ∈ lot, VQ pool q) ∧ callF P W (n + 4) 19 [.ptr 0, .lst (il pool), .int most, .int many] (pu p :: R) = .ok (.ptr (R.length + 1)) (pu p' :: (R ++ [.lst (pl lot)])) := by
  rw [callF_eq (k := f19) rfl rfl]
  obtain ⟨ps, M', e, ⟨p', rfl⟩, h1, h2⟩ := lcA_pairs (f := lcT P W (callF P W (n + 3)) [some (.ptr 0), some (.lst (il pool)), some (.int most), some (.int many), none] (.n 4) .nil (.call 18 (.cons (.v 0) (.cons (.v 1) (.cons (.v 2) .nil))))) (g := fun (i : Nat) => D.int (i : Int)) Pc.D (fun M => ∃ p, M = pu p :: R) (fun _ q => VQ pool q) (l := List.range many) (acc := []) (M := pu p :: R) (by
    rintro i _ M ⟨p, rfl⟩
    obtain ⟨q, p', hq, e⟩ := law_piece (W := W) (n := n) p pool most hp hm hR
    refine ⟨q, _, ?_, ⟨p', rfl⟩, hq⟩
    generalize q.D = Q at *
    generalize il pool = PO at *
    simp [lcT_app, gslots, wipeR, e, Res.noerr]) ⟨p, rfl⟩ (by simp [big, PySem.sizeLine]; omega)
  refine ⟨ps.map Prod.snd, p', by have := congrArg List.length h1; simpa using this, fun q hq => ?_, ?_⟩
  · obtain ⟨x, hx, rfl⟩ := List.mem_map.mp hq
    exact h2 x hx
  · have e3 : (ps.map fun q => q.2.D) = pl (ps.map Prod.snd) := by simp
    rw [e3, List.nil_append] at e
    generalize pl (ps.map Prod.snd) = L at *
    generalize il pool = PO at *
    simp [f19, b19, rngI_nat (show many ≤ 16777216 by omega), e]
    rw [finish_rt_keep (by simp [underD])]
theorem law_easier (p : Int × Int × Int) {pool : List Int} {q : Pc} {R : Store} (hp : PO pool) (hq : VQ pool q) (hR : Cl R) : ∃ q' p', VQ pool q' ∧ fits q q' = true ∧ callF P W (n + 3) 20 [.ptr 0, q.D, .lst (il pool)] (pu p :: R) = .ok q'.D (pu p' :: R) := by
  rw [callF_eq (k := f20) rfl rfl]
  have hnd : q.x.Nodup := hq.v.inc.imp fun h => by omega
  have key := forL_inv (l := pool) (g := D.int) (f := foT P W (callF P W (n + 2)) (.n 4) b20_1) (fun i ρ M' => ∃ p sk, M' = pu p :: (R ++ [.lst (il sk)]) ∧ sk.Nodup ∧ (∀ s ∈ sk, s ∈ pool) ∧ (∀ s ∈ q.x, s ∈ sk) ∧ sk.length ≤ q.x.length + i ∧ ∃ a, ρ = [some (.ptr 0), some q.D, some (.lst (il pool)), some (.ptr (R.length + 1)), a]) (ρ := [some (.ptr 0), some q.D, some (.lst (il pool)), some (.ptr (R.length + 1)), none]) (M := pu p :: (R ++ [.lst (il q.x)])) ⟨p, q.x, rfl, hnd, hq.sub, fun s h => h, by simp, none, rfl⟩ ?_
  · obtain ⟨ρ', M', e, p1, sk, rfl, h1, h2, h3, _, a, rfl⟩ := key
    obtain ⟨v, p2, hv, e2⟩ := drawZ (W := W) (n := n + 1) p1 3 (by omega) (by omega) (R ++ [.lst (il sk)])
    have hne : sk ≠ [] := by
      rintro rfl
      cases hx : q.x with
      | nil => exact hq.v.ne hx
      | cons s r => exact absurd (h3 s (by rw [hx]; exact List.mem_cons_self)) (by simp)
    have hd1 := hq.v.d1
    have hd2 := hq.v.d2
    have hdd : ∃ d : Int, (if q.d + (v : Int) / 2 < 30 then q.d + (v : Int) / 2 else 30) = d ∧ q.d ≤ d ∧ d ≤ 30 := by
      refine ⟨_, rfl, ?_, ?_⟩ <;> split <;> omega
    obtain ⟨d, hde, hd3, hd4⟩ := hdd
    have hv3 : VP ⟨sortI sk, d⟩ := sort_inc hp h1 h2 hne (by omega) (by omega)
    refine ⟨⟨sortI sk, d⟩, p2, ⟨hv3, fun s hs => h2 s ((sortI_perm _).mem_iff.mp hs)⟩, fits_yes (fun s hs => by rw [mem_sortI]; exact h3 s hs) hd3, ?_⟩
    have hin := intsOf_il sk
    have hN : n + 1 + 1 = n + 2 := rfl
    rw [hN] at e2
    change forL _ (il pool) _ _ = _ at e
    have hfd : ∀ M : Store, binop .fdiv (.int (v : Int)) (.int 2) M = .ok (.int ((v : Int) / 2)) M := fun M => fdiv_ii (by omega)
    simp only [Pc.D] at e
    generalize il pool = PO at *
    have hu : underD ((pu p :: R).length) (Pc.D ⟨sortI sk, d⟩) = true := by
      simp only [Pc.D, underD, underDs, underDs_il, Bool.and_self]
    have hfin := fun p3 : Int × Int × Int => finish_rt_cut2 (M := pu p :: R) (M' := pu p3 :: (R ++ [.lst (il sk)])) (N := pu p3 :: R) (R := [.lst (il sk)]) (d := Pc.D ⟨sortI sk, d⟩) (by simp) (by simp) hu (hR.pu _ _)
    have h02 := hfin p2
    simp only [Pc.D] at h02 ⊢
    generalize il sk = SK at *
    simp [f20, b20, pc_D, at0, at1, e, hin, e2, hfd, hde]
    exact h02
  · rintro i a ρ M' hi ⟨p1, sk, rfl, h1, h2, h3, h4, b, rfl⟩
    have hil := hq.v.len
    have hpl := hp.len
    have hi2 := (List.getElem?_eq_some_iff.mp hi).1
    have e1 := nin_il (M := pu p1 :: (R ++ [.lst (il sk)])) (X := .ptr (R.length + 1)) (l := sk) (s := a) (by simp)
    by_cases hm : a ∈ sk
    · refine ⟨_, _, ?_, p1, sk, rfl, h1, h2, h3, by omega, some (.int a), rfl⟩
      generalize il sk = SK at *
      simp [foT_app, b20_1, e1, hm]
    · obtain ⟨v, p2, hv, e2⟩ := drawZ (W := W) (n := n + 1) p1 4 (by omega) (by omega) (R ++ [.lst (il sk)])
      have hN : n + 1 + 1 = n + 2 := rfl
      rw [hN] at e2
      by_cases h0 : v = 0
      · subst h0
        refine ⟨[some (.ptr 0), some q.D, some (.lst (il pool)), some (.ptr (R.length + 1)), some (.int a)], pu p2 :: (R ++ [.lst (il (sk ++ [a]))]), ?_, p2, sk ++ [a], rfl, ?_, ?_, ?_, by simp; omega, _, rfl⟩
        · have hb : (il sk).length < big := by simp [big, PySem.sizeLine]; omega
          have hs : il (sk ++ [a]) = il sk ++ [.int a] := by simp
          rw [hs]
          generalize il sk = SK at *
          generalize il pool = PO at *
          generalize q.D = Q at *
          simp [foT_app, b20_1, e1, hm, e2, hb]
        · rw [List.nodup_append]
          refine ⟨h1, by simp, fun x hx y hy => ?_⟩
          simp at hy; subst hy
          exact fun e => hm (e ▸ hx)
        · intro s hs
          rcases List.mem_append.mp hs with hs | hs
          · exact h2 s hs
          · simp at hs; subst hs; exact List.mem_of_getElem? hi
        · intro s hs; exact List.mem_append_left _ (h3 s hs)
      · have hv0 : ((v : Int) == 0) = false := by rw [beq_eq_false_iff_ne]; omega
        refine ⟨[some (.ptr 0), some q.D, some (.lst (il pool)), some (.ptr (R.length + 1)), some (.int a)], pu p2 :: (R ++ [.lst (il sk)]), ?_, p2, sk, rfl, h1, h2, h3, by omega, _, rfl⟩
        generalize il sk = SK at *
        generalize il pool = PO at *
        generalize q.D = Q at *
        simp [foT_app, b20_1, e1, hm, e2, h0]
end
end K29

/-! AC29 -/
set_option maxRecDepth 100000
set_option maxHeartbeats 4000000
namespace K29
open G
variable {W : Nat}
section
variable {M : Store} {n : Nat}
/-- pieces beside their places in the second lot -/
def Lay (second : List Pc) (li : List (Pc × Nat)) : Prop := (li.map (·.2)).Nodup ∧ ∀ q ∈ li, ∃ a, second[q.2]? = some a ∧ fits a q.1 = true
theorem Lay.sdr {second : List Pc} {li : List (Pc × Nat)} (h : Lay second li) : Sdr (opts (li.map (·.1)) second) (li.map (·.2)) := by
  refine ⟨by simp [opts], h.1, fun i r a h1 h2 => ?_⟩
  rw [List.getElem?_map] at h1
  cases e : li[i]? with
  | none => rw [e] at h1; cases h1
  | some q =>
    rw [e] at h1; cases h1
    unfold opts at h2
    rw [List.getElem?_map, List.getElem?_map, e] at h2
    cases h2
    obtain ⟨b, hb, hf⟩ := h.2 q (List.mem_of_getElem? e)
    refine List.mem_filter.mpr ⟨List.mem_range.mpr (List.getElem?_eq_some_iff.mp hb).1, ?_⟩
    unfold okP; rw [hb]; exact hf
theorem zip_idx_nd (l : List Pc) : (l.zipIdx.map (·.2)).Nodup := by
  have : l.zipIdx.map (·.2) = List.range l.length := by
    refine List.ext_getElem (by simp) fun i h1 h2 => ?_
    simp
  rw [this]; exact List.nodup_range
/-- what was made of some of the second lot lies on it -/
theorem lay_of {second zs : List Pc} {k : Nat} {ps : List (Pc × Pc)} {laid : List Pc} (hz : zs.Perm second) (hp : ps.map (·.1) = zs.take k) (hf : ∀ q ∈ ps, fits q.1 q.2 = true) (hl : laid.Perm (ps.map (·.2))) : ∃ is, Sdr (opts laid second) is := by
  have h0 : second.zipIdx.map (·.1) = second := by
    refine List.ext_getElem (by simp) fun i h1 h2 => ?_
    simp
  obtain ⟨zi, hzi, rfl⟩ := perm_lift (f := fun q : Pc × Nat => q.1) (ys := zs) (l' := second) hz second.zipIdx h0
  have hnd : (zi.map (·.2)).Nodup := (hzi.map (·.2)).symm.nodup (zip_idx_nd second)
  have hlen : ps.length = (zi.take k).length := by
    have := congrArg List.length hp
    simpa using this
  let li0 : List (Pc × Nat) := (ps.map (·.2)).zip ((zi.take k).map (·.2))
  have e1 : li0.map (·.1) = ps.map (·.2) := List.map_fst_zip (by simp; simp at hlen; omega)
  have e2 : li0.map (·.2) = (zi.take k).map (·.2) := List.map_snd_zip (by simp; simp at hlen; omega)
  obtain ⟨li, hli, rfl⟩ := perm_lift (f := fun q : Pc × Nat => q.1) (ys := laid) (l' := ps.map (·.2)) hl li0 e1
  refine ⟨_, Lay.sdr (li := li) ⟨?_, fun q hq => ?_⟩⟩
  · refine (hli.map (·.2)).symm.nodup ?_
    rw [e2]
    exact hnd.sublist (List.Sublist.map _ (List.take_sublist _ _))
  · obtain ⟨i, hi, e⟩ := List.getElem_of_mem (hli.mem_iff.mp hq)
    have hi1 : i < ps.length := by have : i < li0.length := hi; simp [li0] at this; omega
    have hi2 : i < (zi.take k).length := by omega
    have hi3 : i < zi.length := by simp at hi2; omega
    have e3 : q = (ps[i].2, zi[i].2) := by
      rw [← e]
      show ((ps.map (·.2)).zip ((zi.take k).map (·.2)))[i] = _
      simp
    have e4 : ps[i].1 = zi[i].1 := by
      have h5 : (ps.map (·.1))[i]? = ((zi.map fun q => q.1).take k)[i]? := by rw [hp]
      rw [← List.map_take, List.getElem?_map, List.getElem?_map, List.getElem?_eq_getElem hi1, List.getElem?_eq_getElem hi2] at h5
      simpa using h5
    subst e3
    have hm := List.mem_zipIdx_iff_getElem?.mp (hzi.mem_iff.mp (List.getElem_mem hi3))
    refine ⟨zi[i].1, hm, ?_⟩
    rw [← e4]
    exact hf _ (List.getElem_mem hi1)
theorem at_count (l : List Pc) (x : Pc) : ((List.range l.length).filter fun i => decide (l[i]? = some x)).length = (l.filter fun a => decide (a = x)).length := by
  have h : l = (List.range l.length).map fun i => (l[i]?).getD x := by
    refine List.ext_getElem (by simp) fun i h1 h2 => ?_
    simp [h1]
  have h2 : (l.filter fun a => decide (a = x)) = (((List.range l.length).map fun i => (l[i]?).getD x).filter fun a => decide (a = x)) := congrArg _ h
  rw [h2, List.filter_map, List.length_map]
  refine congrArg List.length (List.filter_congr fun i hi => ?_)
  have hi := List.mem_range.mp hi
  simp [hi]
theorem split_len {α : Type} {p : α → Bool} : ∀ {l : List α}, (l.filter p).length + (l.filter fun a => !p a).length = l.length
  | [] => rfl
  | a :: l => by
    have := split_len (p := p) (l := l)
    cases h : p a <;> simp [List.filter_cons, h] <;> omega
theorem hard_only {s : Int} {q : Pc} (hq : VP q) (h : fits q ⟨[s], 1⟩ = true) : q = ⟨[s], 1⟩ := by
  unfold fits at h
  simp only [Bool.and_eq_true, List.all_eq_true, decide_eq_true_eq] at h
  obtain ⟨h1, h2⟩ := h
  have hd := hq.d1
  have hx : q.x = [s] := by
    have hne := hq.ne
    have hinc := hq.inc
    cases hx : q.x with
    | nil => exact absurd hx hne
    | cons a r =>
      rw [hx] at h1 hinc
      have ha := h1 a List.mem_cons_self
      simp at ha
      subst ha
      cases r with
      | nil => rfl
      | cons b r =>
        have hb := h1 b (by simp)
        simp at hb
        rw [List.pairwise_cons] at hinc
        have := hinc.1 b (by simp)
        omega
  obtain ⟨x, d⟩ := q
  simp only at hx h2 hd
  subst hx
  have : d = 1 := by omega
  rw [this]
theorem viol_of {second over rest : List Pc} {s : Int} {c : Nat} (hv : ∀ q ∈ second, VP q) (ho : over.Perm (rest ++ List.replicate c ⟨[s], 1⟩)) (hc : (second.filter fun a => decide (a = ⟨[s], 1⟩)).length < c) : Viol (opts over second) := by
  refine ⟨(List.range over.length).filter fun i => decide (over[i]? = some ⟨[s], 1⟩), (List.range second.length).filter fun i => decide (second[i]? = some ⟨[s], 1⟩), List.nodup_range.sublist List.filter_sublist, ?_, ?_, ?_⟩
  · intro l hl
    rw [opts_len]
    exact List.mem_range.mp (List.mem_filter.mp hl).1
  · intro l hl a ha q hq
    have h1 := (List.mem_filter.mp hl).2
    simp only [decide_eq_true_eq] at h1
    unfold opts at ha
    rw [List.getElem?_map, h1] at ha
    cases ha
    obtain ⟨h2, h3⟩ := List.mem_filter.mp hq
    refine List.mem_filter.mpr ⟨h2, ?_⟩
    unfold okP at h3
    cases hg : second[q]? with
    | none => rw [hg] at h3; cases h3
    | some b =>
      rw [hg] at h3
      rw [hard_only (hv b (List.mem_of_getElem? hg)) h3]
      simp
  · rw [at_count, at_count]
    have := (ho.filter fun a => decide (a = (⟨[s], 1⟩ : Pc))).length_eq
    rw [this, List.filter_append, List.length_append]
    have : (List.filter (fun a => decide (a = (⟨[s], 1⟩ : Pc))) (List.replicate c ⟨[s], 1⟩)).length = c := by simp
    omega
theorem eqds_il : ∀ {a b : List Int}, eqds (il a) (il b) = decide (a = b)
  | [], [] => rfl
  | [], _ :: _ => rfl
  | _ :: _, [] => rfl
  | x :: a, y :: b => by
    show (eqd (.int x) (.int y) && eqds (il a) (il b)) = _
    rw [eqds_il]
    show ((x == y) && _) = _
    by_cases h1 : x = y
    · by_cases h2 : a = b
      · simp [h1, h2]
      · simp [h1, h2]
    · simp [h1]
theorem eqd_pc {a b : Pc} : eqd a.D b.D = decide (a = b) := by
  show (eqds (il a.x) (il b.x) && ((a.d == b.d) && true)) = _
  rw [eqds_il]
  obtain ⟨x, d⟩ := a
  obtain ⟨y, e⟩ := b
  simp only [Bool.and_true, Pc.mk.injEq]
  by_cases h1 : x = y
  · by_cases h2 : d = e
    · simp [h1, h2]
    · simp [h1, h2]
  · simp [h1]
theorem ne_pc {a b : Pc} : cmpop .ne a.D b.D M = .ok (.bl (!decide (a = b))) M := by
  have h : ∀ p : Pc, G.top M p.D = p.D := fun p => rfl
  rw [ne_dd (by rw [h]; exact okd_p a) (by rw [h]; exact okd_p b), h, h, eqd_pc]
end
end K29

/-! AD29 -/
set_option maxRecDepth 100000
set_option maxHeartbeats 4000000
namespace K29
open G
variable {W : Nat}
section
variable {M : Store} {n : Nat}
theorem lcH_filter {α : Type} {f : D → Store → Res (Option D)} {g k : α → D} {p : α → Bool} {M : Store} {n : Nat} {l : List α} (hM : M[n]? = some (.lst (l.map g))) (h : ∀ a ∈ l, f (g a) M = .ok (if p a = true then some (k a) else none) M) (hb : l.length ≤ big) :
    ∀ (m i w : Nat), i + m = l.length → m < w → lcH n f w i (((l.take i).filter p).map k) M = .ok ((l.filter p).map k) M
  | 0, i, 0, _, hw => by omega
  | 0, i, w + 1, e, _ => by
    have e : i = l.length := by omega
    subst e
    simp [lcH, hM]
  | m + 1, i, 0, _, hw => by omega
  | m + 1, i, w + 1, e, hw => by
    have hi : i < l.length := by omega
    have hg : (l.map g)[i]? = some (g l[i]) := by simp [hi]
    have ht : (l.take (i + 1)).filter p = (l.take i).filter p ++ if p l[i] = true then [l[i]] else [] := by
      rw [List.take_succ_eq_append_getElem hi, List.filter_append]
      congr 1
      cases h : p l[i] <;> simp [List.filter, h]
    have hlen : ((l.take i).filter p).length < big := by
      have := List.length_filter_le p (l.take i)
      simp at this; omega
    have := lcH_filter hM h hb m (i + 1) w (by omega) (by omega)
    rw [ht] at this
    rw [lcH]
    simp only [hM, hg, h _ (List.getElem_mem hi), bind_ok]
    cases hp : p l[i] with
    | false =>
      rw [hp] at this
      simp only [Bool.false_eq_true, if_false, List.append_nil] at this ⊢
      exact this
    | true =>
      rw [hp] at this
      simp only [if_true] at this ⊢
      rw [if_pos (by simpa using hlen)]
      rw [List.map_append] at this
      exact this
theorem cases_second {lot : List Pc} {pool : List Int} {p : Int × Int × Int} {many most : Nat} {s : Int} {r5 r6 r7 r8 r9 r10 r11 r12 : Option D} (hp : PO pool) (hm : 1 ≤ most ∧ most ≤ 30) (hk : many ≤ 5 ∨ many = 10) (hl : lot.length = many) (hv : ∀ q ∈ lot, VQ pool q) :
    ∃ second, second.length = many ∧ (∀ q ∈ second, VQ pool q) ∧ (second.filter fun a => decide (a = ⟨[s], 1⟩)).length ≤ 9 ∧
      runS P W (callF P W n) (.ite (.cmp .eq (.v 3) (.int 10)) (.cons (.asgI (.v 4) (.int 9) (.tup (.cons (.bi .tuple (.cons (.bi (.sorted false) (.cons (.v 1) .nil)) .nil)) (.cons (.v 2) .nil)))) .nil) .nil) [some (.ptr 0), some (.lst (il pool)), some (.int most), some (.int many), some (.ptr 1), r5, r6, r7, r8, r9, r10, r11, r12] [pu p, .lst (pl lot)] =
        some (.nx [some (.ptr 0), some (.lst (il pool)), some (.int most), some (.int many), some (.ptr 1), r5, r6, r7, r8, r9, r10, r11, r12], [pu p, .lst (pl second)]) := by
  by_cases h : many = 10
  · have hvx : VQ pool ⟨sortI pool, (most : Int)⟩ := ⟨sort_inc hp hp.nd (fun _ h => h) hp.ne (by omega) (by omega), fun s hs => (sortI_perm _).mem_iff.mp hs⟩
    have hne : ((⟨sortI pool, (most : Int)⟩ : Pc) = ⟨[s], 1⟩) → False := by
      intro e
      have h1 : sortI pool = [s] := congrArg Pc.x e
      have h2 := (sortI_perm pool).length_eq
      have := hp.len
      rw [h1] at h2; simp at h2; omega
    refine ⟨lot.set 9 ⟨sortI pool, (most : Int)⟩, by simpa using hl, fun q hq => ?_, ?_, ?_⟩
    · rcases List.mem_or_eq_of_mem_set hq with hq | rfl
      · exact hv q hq
      · exact hvx
    · have h1 := split_len (p := fun a => decide (a = (⟨[s], 1⟩ : Pc))) (l := lot.set 9 ⟨sortI pool, (most : Int)⟩)
      have h2 : (⟨sortI pool, (most : Int)⟩ : Pc) ∈ (lot.set 9 ⟨sortI pool, (most : Int)⟩).filter fun a => !decide (a = (⟨[s], 1⟩ : Pc)) := by
        refine List.mem_filter.mpr ⟨List.mem_set (by omega) _, ?_⟩
        show (!decide (_ = _)) = true
        rw [decide_eq_false hne]; rfl
      have h3 := List.length_pos_iff.mpr (List.ne_nil_of_mem h2)
      rw [List.length_set] at h1
      omega
    · have hin := intsOf_il pool
      have hps : pl (lot.set 9 ⟨sortI pool, (most : Int)⟩) = (pl lot).set 9 (.tup [.tup (il (sortI pool)), .int most]) := by rw [pl, List.map_set]; rfl
      have hix : L2.ixN (pl lot).length 9 = some 9 := by
        rw [List.length_map, hl, h]; rfl
      rw [hps]
      generalize pl lot = L at *
      subst h
      have h10 : (((10 : Nat) : Int) == 10) = true := rfl
      simp [hin, hix]
  · refine ⟨lot, hl, hv, ?_, ?_⟩
    · have := List.length_filter_le (fun a => decide (a = (⟨[s], 1⟩ : Pc))) lot
      omega
    · have h10 : ((many : Int) == 10) = false := by rw [beq_eq_false_iff_ne]; omega
      simp [h10]
theorem VQ.vp {pool : List Int} {l : List Pc} (h : ∀ q ∈ l, VQ pool q) : ∀ q ∈ l, VP q := fun q hq => (h q hq).v
theorem law_cases (p : Int × Int × Int) (pool : List Int) (most many : Nat) (hp : PO pool) (hm : 1 ≤ most ∧ most ≤ 30) (hk : many ≤ 5 ∨ many = 10) (hW : 100000 < W) :
    ∃ laid over second d1 d2 p', VL laid ∧ VL over ∧ VL second ∧ VL d1 ∧ VL d2 ∧ (∃ ps, Sdr (opts laid second) ps) ∧ Viol (opts over second) ∧ callF P W (n + 5) 21 [.ptr 0, .lst (il pool), .int most, .int many] [pu p] = .ok (.lst [.lst [.lst (pl laid), .ptr 1], .lst [.lst (pl over), .ptr 1], .lst [.ptr 2, .ptr 3]]) [pu p', .lst (pl second), .lst (pl d1), .lst (pl d2)] := by
  rw [callF_eq (k := f21) rfl rfl]
  have hcl0 : Cl [] := fun _ => rfl
  obtain ⟨lot, p1, hll, hlv, e1⟩ := law_lot (W := W) (n := n) p pool most many hp hm (by omega) hcl0
  have e1 : callF P W (n + 4) 19 [.ptr 0, .lst (il pool), .int most, .int many] [pu p] = .ok (.ptr 1) [pu p1, .lst (pl lot)] := e1
  obtain ⟨s, pr, hpool⟩ : ∃ s pr, pool = s :: pr := by
    cases h : pool with
    | nil => exact absurd h hp.ne
    | cons s pr => exact ⟨s, pr, rfl⟩
  have hat0 : L2.atI (il pool) 0 = some (.int s) := by rw [hpool]; exact at0
  have hspool : s ∈ pool := by rw [hpool]; exact List.mem_cons_self
  obtain ⟨second, hsl, hsv, hcnt, e2⟩ := cases_second (W := W) (n := n + 4) (p := p1) (s := s) (r5 := none) (r6 := none) (r7 := none) (r8 := none) (r9 := none) (r10 := none) (r11 := none) (r12 := none) hp hm hk hll hlv
  have hcl1 : Cl [.lst (pl second)] := hcl0.snoc (G := []) fun k => underDs_pl
  obtain ⟨zs, p2, hz, e3⟩ := mix_pl (W := W) (n := n + 2) p1 (.ptr 1) second [.lst (pl second)] (.inr ⟨1, rfl, rfl⟩) (by omega) (hcl1 _)
  have hzl := hz.length_eq
  obtain ⟨k, p3, hk2, e4⟩ : ∃ (k : Nat) (p3 : Int × Int × Int), k ≤ many ∧ runE P W (callF P W (n + 4)) [some (.ptr 0), some (.lst (il pool)), some (.int most), some (.int many), some (.ptr 1), none, none, none, none, none, none, none, none] (.ife (.cmp .gt (.v 3) (.int 0)) (.bin .sub (.v 3) (.call 14 (.cons (.v 0) (.cons (.int 2) .nil)))) (.int 0)) [pu p2, .lst (pl second)] = .ok (.int (k : Nat)) [pu p3, .lst (pl second)] := by
    by_cases h0 : many = 0
    · subst h0
      exact ⟨0, p2, by omega, by simp⟩
    · obtain ⟨v, p3, hv, e⟩ := drawZ (W := W) (n := n + 3) p2 2 (by omega) (by omega) [.lst (pl second)]
      have hN : n + 3 + 1 = n + 4 := rfl
      rw [hN] at e
      refine ⟨many - v, p3, by omega, ?_⟩
      have hc : (((many - v : Nat)) : Int) = (many : Int) - v := by omega
      have hpos : decide ((0 : Int) < (many : Int)) = true := by simp; omega
      generalize pl second = S at *
      rw [hc]
      simp [hpos, e]
      omega
  have hct : cutd (pl zs) none (some (k : Int)) = pl (zs.take k) := by rw [cut_to]; simp [List.map_take]
  have hzv : ∀ q ∈ zs.take k, VQ pool q := fun q hq => hsv q (hz.mem_iff.mp (List.mem_of_mem_take hq))
  obtain ⟨ps, M', e5, ⟨p4, rfl⟩, hps1, hps2⟩ := lcA_pairs (f := lcT P W (callF P W (n + 4)) [some (.ptr 0), some (.lst (il pool)), some (.int most), some (.int many), some (.ptr 1), some (.lst (pl (zs.take k))), none, none, none, none, none, none, none] (.n 12) .nil (.call 20 (.cons (.v 0) (.cons (.v 12) (.cons (.v 1) .nil))))) (g := Pc.D) Pc.D (fun M => ∃ p, M = [pu p, .lst (pl second)]) (fun q q' => VQ pool q' ∧ fits q q' = true) (l := zs.take k) (acc := []) (M := [pu p3, .lst (pl second)]) (by
    rintro q hq M ⟨p, rfl⟩
    obtain ⟨q', p', h1, h2, e⟩ := law_easier (W := W) (n := n + 1) p hp (hzv q hq) hcl1
    refine ⟨q', _, ?_, ⟨p', rfl⟩, h1, h2⟩
    have hN : n + 1 + 3 = n + 4 := rfl
    rw [hN] at e
    generalize q.D = Q at *
    generalize q'.D = Q' at *
    generalize il pool = PO at *
    generalize pl second = S at *
    simp [lcT_app, gslots, wipeR, e, Res.noerr]) ⟨p3, rfl⟩ (by simp [big, PySem.sizeLine]; omega)
  have h3 : (ps.map fun q => q.2.D) = pl (ps.map Prod.snd) := by simp
  rw [h3, List.nil_append] at e5
  change lcA _ (pl (zs.take k)) [] _ = _ at e5
  have hpl : (ps.map Prod.snd).length ≤ many := by
    have := congrArg List.length hps1
    simp at this ⊢; omega
  obtain ⟨laid, p5, hld, e6⟩ := mix_pl (W := W) (n := n + 2) p4 (.lst (pl (ps.map Prod.snd))) (ps.map Prod.snd) [.lst (pl second)] (.inl rfl) (by omega) (hcl1 _)
  have hlaidl := hld.length_eq
  have hlaidv : ∀ q ∈ laid, VP q := fun q hq => by
    obtain ⟨x, hx, rfl⟩ := List.mem_map.mp (hld.mem_iff.mp hq)
    exact (hps2 x hx).1.v
  let hard : Pc := ⟨[s], 1⟩
  have e7 := lcH_filter (n := 1) (l := second) (f := lcT P W (callF P W (n + 4)) [some (.ptr 0), some (.lst (il pool)), some (.int most), some (.int many), some (.ptr 1), some (.lst (pl (zs.take k))), some (.lst (pl laid)), some hard.D, none, none, none, none, none] (.n 12) (.cons (.cmp .ne (.v 12) (.v 7)) .nil) (.v 12)) (g := Pc.D) (k := Pc.D) (p := fun a => !decide (a = hard)) (M := [pu p5, .lst (pl second)]) rfl (fun a _ => by
    have e := ne_pc (M := [pu p5, .lst (pl second)]) (a := a) (b := hard)
    generalize hard.D = HD at *
    generalize a.D = AD at *
    generalize pl second = S at *
    cases h : decide (a = hard) <;> rw [h] at e <;> simp [lcT_app, gslots, wipeR, e, Res.noerr]) (by simp [big, PySem.sizeLine]; omega) second.length 0 W (by omega) (by omega)
  have hspl := split_len (p := fun a => decide (a = hard)) (l := second)
  have hcnt : (second.filter fun a => decide (a = hard)).length ≤ 9 := hcnt
  obtain ⟨c, hc⟩ : ∃ c, c = 1 + (second.filter fun a => decide (a = hard)).length := ⟨_, rfl⟩
  have hrep : (List.replicate ((c : Int)).toNat [hard.D]).flatten = pl (List.replicate c hard) := by
    simp [pl]
  have e8 : binop .mul (.lst [hard.D]) (.int (c : Int)) [pu p5, .lst (pl second)] = .ok (.lst (pl (List.replicate c hard))) [pu p5, .lst (pl second)] := by
    rw [mul_li ⟨by omega, by omega, by simp [big, PySem.sizeLine]; omega⟩, hrep]
  obtain ⟨t, ht, htl⟩ : ∃ t : Nat, (t : Int) = max 0 (min (laid.length : Int) (10 - (c : Int))) ∧ t + c ≤ 10 := ⟨(max 0 (min (laid.length : Int) (10 - (c : Int)))).toNat, by omega, by omega⟩
  have hct2 : cutd (pl laid) none (some (t : Int)) = pl (laid.take t) := by rw [cut_to]; simp [List.map_take]
  have e9 : binop .add (.lst (pl (laid.take t))) (.lst (pl (List.replicate c hard))) [pu p5, .lst (pl second)] = .ok (.lst (pl (laid.take t ++ List.replicate c hard))) [pu p5, .lst (pl second)] := by
    rw [add_ll (by simp [big, PySem.sizeLine]; omega)]; simp
  have hovl : (laid.take t ++ List.replicate c hard).length ≤ 10 := by simp; omega
  obtain ⟨over, p6, hov, e10⟩ := mix_pl (W := W) (n := n + 2) p5 (.lst (pl (laid.take t ++ List.replicate c hard))) (laid.take t ++ List.replicate c hard) [.lst (pl second)] (.inl rfl) (by omega) (hcl1 _)
  obtain ⟨k1, p7, hk7, e11⟩ := drawZ (W := W) (n := n + 3) p6 5 (by omega) (by omega) [.lst (pl second)]
  obtain ⟨d1, p8, hd1l, hd1v, e12⟩ := law_lot (W := W) (n := n) p7 pool most k1 hp hm (by omega) hcl1
  have e12 : callF P W (n + 4) 19 [.ptr 0, .lst (il pool), .int most, .int k1] [pu p7, .lst (pl second)] = .ok (.ptr 2) [pu p8, .lst (pl second), .lst (pl d1)] := e12
  obtain ⟨k2, p9, hk9, e13⟩ := drawZ (W := W) (n := n + 3) p8 5 (by omega) (by omega) [.lst (pl second), .lst (pl d1)]
  have hcl2 : Cl [.lst (pl second), .lst (pl d1)] := hcl1.snoc fun k => underDs_pl
  obtain ⟨d2, p10, hd2l, hd2v, e14⟩ := law_lot (W := W) (n := n) p9 pool most k2 hp hm (by omega) hcl2
  have e14 : callF P W (n + 4) 19 [.ptr 0, .lst (il pool), .int most, .int k2] [pu p9, .lst (pl second), .lst (pl d1)] = .ok (.ptr 3) [pu p10, .lst (pl second), .lst (pl d1), .lst (pl d2)] := e14
  have hhv : VP hard := ⟨by simp [hard], by simp [hard], by simp [hard]; exact hp.rng s hspool, by simp [hard], by simp [hard]⟩
  refine ⟨laid, over, second, d1, d2, p10, ⟨by omega, hlaidv⟩, ⟨by rw [hov.length_eq]; exact hovl, fun q hq => ?_⟩, ⟨by omega, VQ.vp hsv⟩, ⟨by omega, VQ.vp hd1v⟩, ⟨by omega, VQ.vp hd2v⟩, lay_of hz hps1 (fun q hq => (hps2 q hq).2) hld, viol_of (VQ.vp hsv) hov (by show (second.filter fun a => decide (a = hard)).length < c; omega), ?_⟩
  · rcases List.mem_append.mp (hov.mem_iff.mp hq) with hq | hq
    · exact hlaidv q (List.mem_of_mem_take hq)
    · rw [(List.mem_replicate.mp hq).2]; exact hhv
  · simp only [List.take_zero, List.filter_nil, List.map_nil] at e7
    change _ = Res.ok (pl (second.filter fun a => !decide (a = hard))) _ at e7
    have l1 : (pl second).length = many := by simp [hsl]
    have l2 : (((pl second).length : Nat) : Int) + 1 - ((pl (second.filter fun a => !decide (a = hard))).length : Nat) = (c : Int) := by
      rw [List.length_map, List.length_map]; omega
    have l2b : 1 + (((pl second).length : Nat) : Int) - ((pl (second.filter fun a => !decide (a = hard))).length : Nat) = (c : Int) := by omega
    have l3 : (pl laid).length = laid.length := by simp
    have l4 : (pl (List.replicate c hard)).length = c := by simp
    have hHD : hard.D = .tup [.tup [.int s], .int 1] := rfl
    have ht2 : (if (0 : Int) < (if (10 : Int) - (c : Int) < (laid.length : Int) then (10 : Int) - (c : Int) else (laid.length : Int)) then (if (10 : Int) - (c : Int) < (laid.length : Int) then (10 : Int) - (c : Int) else (laid.length : Int)) else 0) = (t : Int) := by
      rw [ht]; split <;> split at * <;> omega
    have hm : ([D.ptr 0, .lst (il pool), .int most, .int many].map some ++ List.replicate (f21.names.length - f21.np) none) = [some (.ptr 0), some (.lst (il pool)), some (.int most), some (.int many), none, none, none, none, none, none, none, none, none] := rfl
    rw [hm]
    have main : Rt (runSs P W (callF P W (n + 4)) b21 [some (.ptr 0), some (.lst (il pool)), some (.int most), some (.int many), none, none, none, none, none, none, none, none, none] [pu p]) (fun d M' => d = .lst [.lst [.lst (pl laid), .ptr 1], .lst [.lst (pl over), .ptr 1], .lst [.ptr 2, .ptr 3]] ∧ M' = [pu p10, .lst (pl second), .lst (pl d1), .lst (pl d2)]) := by
      generalize hard.D = HD at *
      generalize hS : pl second = S at *
      generalize pl laid = LA at *
      generalize pl over = OV at *
      generalize pl lot = LO at *
      generalize pl (zs.take k) = ZK at *
      generalize pl zs = ZS at *
      generalize pl (ps.map Prod.snd) = PS at *
      generalize pl d1 = D1 at *
      generalize pl d2 = D2 at *
      generalize pl (laid.take t ++ List.replicate c hard) = LR at *
      generalize pl (laid.take t) = LT at *
      generalize pl (List.replicate c hard) = RE at *
      generalize pl (second.filter fun a => !decide (a = hard)) = SP at *
      generalize il pool = PO at *
      simp only [b21, rSs_cons]
      refine Rt.step [some (.ptr 0), some (.lst PO), some (.int most), some (.int many), some (.ptr 1), none, none, none, none, none, none, none, none] [pu p1, .lst LO] (by simp [e1]) ?_
      refine Rt.step _ _ e2 ?_
      refine Rt.step [some (.ptr 0), some (.lst PO), some (.int most), some (.int many), some (.ptr 1), some (.lst ZK), none, none, none, none, none, none, none] [pu p3, .lst S] (by
        have e4' : ∀ k' : D → Store → Res D, True := fun _ => trivial
        simp only [rS_asg, rE_sl, rE_call, rA_cons, rA_nil, rE_v, List.getElem?_cons_zero, List.getElem?_cons_succ, onV_some, zbind_ok, e3, rO_no, rO_so, e4, onI_int, sld_lst, hct, zwith_ok, bindG_n, oO_some, List.set_cons_succ, List.set_cons_zero]) ?_
      refine Rt.step [some (.ptr 0), some (.lst PO), some (.int most), some (.int many), some (.ptr 1), some (.lst ZK), some (.lst LA), none, none, none, none, none, none] [pu p5, .lst S] (by simp [e5, e6]) ?_
      refine Rt.step [some (.ptr 0), some (.lst PO), some (.int most), some (.int many), some (.ptr 1), some (.lst ZK), some (.lst LA), some HD, none, none, none, none, none] [pu p5, .lst S] (by simp [hat0, hHD]) ?_
      refine Rt.step [some (.ptr 0), some (.lst PO), some (.int most), some (.int many), some (.ptr 1), some (.lst ZK), some (.lst LA), some HD, some (.lst SP), none, none, none, none] [pu p5, .lst S] (by
        have hw : walkOf [pu p5, .lst S] (.ptr 1) = some (.hot 1) := walk_ptr (xs := S) rfl
        simp [hw, e7]) ?_
      refine Rt.step [some (.ptr 0), some (.lst PO), some (.int most), some (.int many), some (.ptr 1), some (.lst ZK), some (.lst LA), some HD, some (.lst SP), some (.lst RE), none, none, none] [pu p5, .lst S] (by simp [l2b, e8]) ?_
      refine Rt.step [some (.ptr 0), some (.lst PO), some (.int most), some (.int many), some (.ptr 1), some (.lst ZK), some (.lst LA), some HD, some (.lst SP), some (.lst RE), some (.lst OV), none, none] [pu p6, .lst S] (by simp [l3, l4, ht2, hct2, e9, e10]) ?_
      refine Rt.step [some (.ptr 0), some (.lst PO), some (.int most), some (.int many), some (.ptr 1), some (.lst ZK), some (.lst LA), some HD, some (.lst SP), some (.lst RE), some (.lst OV), some (.lst [.ptr 2, .ptr 3]), none] [pu p10, .lst S, .lst D1, .lst D2] (by simp [e11, e12, e13, e14]) ?_
      exact Rt.of (.lst [.lst [.lst LA, .ptr 1], .lst [.lst OV, .ptr 1], .lst [.ptr 2, .ptr 3]]) [pu p10, .lst S, .lst D1, .lst D2] (by simp) ⟨rfl, rfl⟩
    obtain ⟨d, M', e, rfl, rfl⟩ := main
    have hb : f21.body = b21 := rfl
    rw [hb, e]
    rw [finish_rt_keep (by simp [underD, underDs])]
end
end K29

/-! AE29 -/
set_option maxRecDepth 100000
set_option maxHeartbeats 4000000
namespace K29
open G
variable {W : Nat}
section
variable {M : Store} {n : Nat}
structure Wrong (w : Pc) : Prop where
  bad : w.x = [] ∨ hd0 w.x < 1 ∨ w.d < 1 ∨ ∃ k, k + 1 < w.x.length ∧ w.x[k + 1]?.getD 0 ≤ w.x[k]?.getD 0
  skl : ∀ s ∈ w.x, s ≤ 8
  due : w.d ≤ 30
  len : w.x.length ≤ 100
theorem Wrong.badE {w : Pc} (h : Wrong w) (i : Nat) : badE i w = some (1, [.int i]) := by
  unfold K29.badE
  split
  · rfl
  · rename_i hn
    simp only [not_or] at hn
    rcases h.bad with h1 | h1 | h1 | ⟨k, hk, hle⟩
    · exact absurd h1 hn.1
    · exact absurd h1 hn.2.1
    · exact absurd h1 hn.2.2
    · have hd : ∀ j, downE i w.x j = none ∨ downE i w.x j = some (1, [.int i]) := fun j => by
        unfold downE; split
        · exact .inr rfl
        · exact .inl rfl
      have hdk : downE i w.x k = some (1, [.int i]) := by
        unfold downE
        rw [if_pos (by rw [Nat.add_comm 1 k]; exact hle)]
      cases e : (List.range (w.x.length - 1)).findSome? (downE i w.x) with
      | none =>
        have := List.findSome?_eq_none_iff.mp e k (List.mem_range.mpr (by omega))
        rw [hdk] at this; cases this
      | some y =>
        obtain ⟨j, _, e2⟩ := List.exists_of_findSome?_eq_some e
        rcases hd j with h | h
        · rw [h] at e2; cases e2
        · rw [h] at e2; exact e2.symm
theorem Wrong.no {w : Pc} (h : Wrong w) : pskE w = none ∧ belE w = none :=
  ⟨List.findSome?_eq_none_iff.mpr fun s hs => many_no (by have := h.skl s hs; omega), many_no (by have := h.due; omega)⟩
theorem VP.no {p : Pc} (h : VP p) : pskE p = none ∧ belE p = none :=
  ⟨List.findSome?_eq_none_iff.mpr fun s hs => many_no (by have := (h.rng s hs).2; omega), many_no (by have := h.d2; omega)⟩
def NoE (p : Pc) : Prop := pskE p = none ∧ belE p = none
theorem dropE_none {lots : List (List Pc)} (hl : ∀ l ∈ lots, l.length ≤ 10) (h : ∀ l ∈ lots, ∀ p ∈ l, NoE p) : dropE lots = none := by
  have e1 : lots.findSome? lenE = none := List.findSome?_eq_none_iff.mpr fun l hm => many_no (by have := hl l hm; omega)
  have e2 : (lots.findSome? fun l => l.findSome? pskE) = none := List.findSome?_eq_none_iff.mpr fun l hm => List.findSome?_eq_none_iff.mpr fun p hp => (h l hm p hp).1
  have e3 : (lots.findSome? fun l => l.findSome? belE) = none := List.findSome?_eq_none_iff.mpr fun l hm => List.findSome?_eq_none_iff.mpr fun p hp => (h l hm p hp).2
  unfold dropE
  rw [e1, e2, e3]; rfl
theorem piece_at {rows : List Pc} {rest : List Pc} {w : Pc} (h : ∀ p ∈ rows, VP p) (hw : Wrong w) : ((rows ++ w :: rest).zipIdx).findSome? (fun p => badE p.2 p.1) = some (1, [.int (rows.length : Nat)]) := by
  rw [List.zipIdx_append, List.findSome?_append]
  have : (rows.zipIdx).findSome? (fun p => badE p.2 p.1) = none := by
    rw [List.findSome?_eq_none_iff]
    rintro ⟨p, i⟩ hp
    exact badE_none (h p (List.fst_mem_of_mem_zipIdx hp)) i
  rw [this, List.zipIdx_cons, List.findSome?_cons, hw.badE]
  simp
theorem piece_no {l : List Pc} (h : ∀ p ∈ l, VP p) : (l.zipIdx).findSome? (fun p => badE p.2 p.1) = none := by
  rw [List.findSome?_eq_none_iff]
  rintro ⟨p, i⟩ hp
  exact badE_none (h p (List.fst_mem_of_mem_zipIdx hp)) i
theorem atE_none {f s : List Pc} (hf : VL f) (hs : VL s) : atE f s = none := by
  unfold atE
  rw [dropE_none (by
    intro l hl; simp at hl; rcases hl with rfl | rfl
    · exact hf.len
    · exact hs.len) (by
    intro l hl p hp; simp at hl; rcases hl with rfl | rfl
    · exact (hf.all p hp).no
    · exact (hs.all p hp).no)]
  unfold pieceE
  rw [piece_no]
  · rfl
  · intro p hp
    simp at hp
    rcases hp with hp | hp
    · exact hf.all p hp
    · exact hs.all p hp
theorem hardE_none {a b : Pc} (ha : VP a) (hb : VP b) : hardE a b = none := by
  unfold hardE
  rw [dropE_none (by simp) (by
    intro l hl p hp; simp at hl; subst hl; simp at hp
    rcases hp with rfl | rfl
    · exact ha.no
    · exact hb.no)]
  unfold pieceE
  rw [piece_no]
  · rfl
  · intro p hp
    simp at hp
    rcases hp with rfl | rfl
    · exact ha
    · exact hb
def kindsL (q : Pc) (last v : Int) : List Pc := [⟨[], q.d⟩, ⟨0 :: q.x, q.d⟩, ⟨q.x ++ [last], q.d⟩, ⟨q.x, 0⟩, ⟨q.x, -1 - v⟩, ⟨[-2], q.d⟩] ++ if 1 < q.x.length then [⟨q.x.drop 1 ++ q.x.take 1, q.d⟩] else []
theorem kinds_wrong {q : Pc} {last v : Int} (hq : VP q) (hl : q.x[q.x.length - 1]? = some last) (hv : 0 ≤ v) : ∀ w ∈ kindsL q last v, Wrong w := by
  have hlen := hq.len
  have hne := hq.ne
  have hpos : 0 < q.x.length := List.length_pos_iff.mpr hne
  have hd2 := hq.d2
  have h8 : ∀ s ∈ q.x, s ≤ 8 := fun s hs => (hq.rng s hs).2
  have hlm := List.mem_of_getElem? hl
  intro w hw
  unfold kindsL at hw
  rcases List.mem_append.mp hw with hw | hw
  · simp only [List.mem_cons, List.not_mem_nil, or_false] at hw
    rcases hw with rfl | rfl | rfl | rfl | rfl | rfl
    · exact ⟨.inl rfl, by simp, hd2, by simp⟩
    · exact ⟨.inr (.inl (by simp [hd0])), by (intro s hs; simp at hs; rcases hs with rfl | hs; (· omega); (· exact h8 s hs)), hd2, by simp; omega⟩
    · refine ⟨.inr (.inr (.inr ⟨q.x.length - 1, by simp; omega, ?_⟩)), by (intro s hs; simp at hs; rcases hs with hs | rfl; (· exact h8 s hs); (· exact h8 _ hlm)), hd2, by simp; omega⟩
      have e1 : (q.x ++ [last])[q.x.length - 1 + 1]? = some last := by
        rw [show q.x.length - 1 + 1 = q.x.length by omega]; simp
      have e2 : (q.x ++ [last])[q.x.length - 1]? = some last := by
        rw [List.getElem?_append_left (by omega), hl]
      rw [e1, e2]; simp
    · exact ⟨.inr (.inr (.inl (by simp))), h8, by simp, by show q.x.length ≤ 100; omega⟩
    · exact ⟨.inr (.inr (.inl (by simp; omega))), h8, by simp; omega, by show q.x.length ≤ 100; omega⟩
    · exact ⟨.inr (.inl (by simp [hd0])), by simp, hd2, by simp⟩
  · split at hw
    · rename_i h1
      rw [List.mem_singleton] at hw; subst hw
      refine ⟨.inr (.inr (.inr ⟨q.x.length - 2, by simp; omega, ?_⟩)), by
        intro s hs
        rcases List.mem_append.mp hs with hs | hs
        · exact h8 s (List.mem_of_mem_drop hs)
        · exact h8 s (List.mem_of_mem_take hs), hd2, by simp; omega⟩
      have e1 : (q.x.drop 1 ++ q.x.take 1)[q.x.length - 2 + 1]? = some (q.x[0]'(by omega)) := by
        rw [List.getElem?_append_right (by simp; omega)]
        have : q.x.length - 2 + 1 - (q.x.drop 1).length = 0 := by simp; omega
        rw [this]; simp [List.getElem?_take]
      have e2 : (q.x.drop 1 ++ q.x.take 1)[q.x.length - 2]? = some (q.x[q.x.length - 1]'(by omega)) := by
        rw [List.getElem?_append_left (by simp; omega)]
        rw [List.getElem?_drop, show 1 + (q.x.length - 2) = q.x.length - 1 by omega]
        simp
      rw [e1, e2]
      have := List.pairwise_iff_getElem.mp hq.inc 0 (q.x.length - 1) (by omega) (by omega) (by omega)
      simp only [Option.getD_some]; omega
    · cases hw
@[simp] theorem sld_tup {xs : List D} {l h : Option Int} : sld M (.tup xs) l h = .ok (.tup (cutd xs l h)) M := rfl
theorem law_wrong (p : Int × Int × Int) {q : Pc} {R : Store} (hq : VP q) (hR : Cl R) : ∃ w p', Wrong w ∧ callF P W (n + 2) 28 [.ptr 0, q.D] (pu p :: R) = .ok w.D (pu p' :: R) := by
  rw [callF_eq (k := f28) rfl rfl]
  have hlen := hq.len
  have hpos : 0 < q.x.length := List.length_pos_iff.mpr hq.ne
  obtain ⟨last, hl⟩ : ∃ last, q.x[q.x.length - 1]? = some last := ⟨q.x[q.x.length - 1]'(by omega), by simp⟩
  have hla := il_get hl
  have hla2 : L2.atI (il q.x) ((q.x.length : Int) - 1) = some (.int last) := by
    rw [← hla]; congr 1; omega
  obtain ⟨v, p1, hv, e1⟩ := drawZ (W := W) (n := n) p 3 (by omega) (by omega) R
  have hkw := kinds_wrong hq hl (v := (v : Int)) (by omega)
  have hkl : 0 < (kindsL q last v).length ∧ (kindsL q last v).length ≤ 7 := by unfold kindsL; split <;> simp
  obtain ⟨u, p2, hu, e2⟩ := drawN (W := W) (n := n) p1 (kindsL q last v).length hkl.1 (by omega) (R ++ [.lst (pl (kindsL q last v))])
  have hg : (kindsL q last v)[u]? = some (kindsL q last v)[u] := by simp [hu]
  have hka := pl_get hg
  refine ⟨(kindsL q last v)[u], p2, hkw _ (List.getElem_mem hu), ?_⟩
  have a1 : ∀ M : Store, binop .add (.tup [.int 0]) (.tup (il q.x)) M = .ok (.tup (il (0 :: q.x))) M := fun M => by
    rw [add_tt (by simp [big, PySem.sizeLine]; omega)]; simp
  have a2 : ∀ M : Store, binop .add (.tup (il q.x)) (.tup [.int last]) M = .ok (.tup (il (q.x ++ [last]))) M := fun M => by
    rw [add_tt (by simp [big, PySem.sizeLine]; omega)]; simp
  have c1 : cutd (il q.x) (some 1) none = il (q.x.drop 1) := by
    have := cut_from (xs := il q.x) (k := 1)
    simp only [Int.natCast_one] at this
    rw [this]; simp [il, List.map_drop]
  have c2 : cutd (il q.x) none (some 1) = il (q.x.take 1) := by
    have := cut_to (xs := il q.x) (k := 1)
    simp only [Int.natCast_one] at this
    rw [this]; simp [il, List.map_take]
  have a3 : ∀ M : Store, binop .add (.tup (il (q.x.drop 1))) (.tup (il (q.x.take 1))) M = .ok (.tup (il (q.x.drop 1 ++ q.x.take 1))) M := fun M => by
    rw [add_tt (by simp [big, PySem.sizeLine]; omega)]; simp
  have hil : (il q.x).length = q.x.length := by simp
  have hfin : finish true (pu p :: R) (some (.rt ((kindsL q last v)[u]).D, pu p2 :: (R ++ [.lst (pl (kindsL q last v))]))) = .ok ((kindsL q last v)[u]).D (pu p2 :: R) :=
    finish_rt_cut2 (N := pu p2 :: R) (R := [.lst (pl (kindsL q last v))]) (by simp) (by simp) (by
      simp only [Pc.D, underD, underDs, underDs_il, Bool.and_self]) (hR.pu _ _)
  have hmm : [D.ptr 0, q.D].map some ++ List.replicate (f28.names.length - f28.np) none = [some (.ptr 0), some q.D, none, none, none, none] := rfl
  have hb : f28.body = b28 := rfl
  have ht : f28.trunc = true := rfl
  rw [hmm, hb, ht]
  have main : Rt (runSs P W (callF P W (n + 1)) b28 [some (.ptr 0), some q.D, none, none, none, none] (pu p :: R)) (fun d M' => d = ((kindsL q last v)[u]).D ∧ M' = pu p2 :: (R ++ [.lst (pl (kindsL q last v))])) := by
    simp only [b28, rSs_cons]
    have hpD : D.tup [.tup (il ((kindsL q last v)[u]).x), .int ((kindsL q last v)[u]).d] = ((kindsL q last v)[u]).D := rfl
    rw [hpD] at hka
    have hbg : ∀ ρ, bindG (.t [4, 5]) q.D ρ = some ((ρ.set 4 (some (.tup (il q.x)))).set 5 (some (.int q.d))) := fun ρ => rfl
    generalize ((kindsL q last v)[u]).D = WD at *
    generalize q.D = QD at *
    refine Rt.step [some (.ptr 0), some QD, none, none, some (.tup (il q.x)), some (.int q.d)] (pu p :: R) (by simp [hbg]) ?_
    refine Rt.step [some (.ptr 0), some QD, some (.int last), none, some (.tup (il q.x)), some (.int q.d)] (pu p :: R) (by
      simp [hla2]) ?_
    refine Rt.step [some (.ptr 0), some QD, some (.int last), some (.ptr (R.length + 1)), some (.tup (il q.x)), some (.int q.d)] (pu p1 :: (R ++ [.lst (pl [⟨[], q.d⟩, ⟨0 :: q.x, q.d⟩, ⟨q.x ++ [last], q.d⟩, ⟨q.x, 0⟩, ⟨q.x, -1 - v⟩, ⟨[-2], q.d⟩])])) (by
      have h6 : (6 ≤ big) = True := by simp [big, PySem.sizeLine]
      have hp6 : pl [⟨[], q.d⟩, ⟨0 :: q.x, q.d⟩, ⟨q.x ++ [last], q.d⟩, ⟨q.x, 0⟩, ⟨q.x, -1 - (v : Int)⟩, ⟨[-2], q.d⟩] = [.tup [.tup [], .int q.d], .tup [.tup (il (0 :: q.x)), .int q.d], .tup [.tup (il (q.x ++ [last])), .int q.d], .tup [.tup (il q.x), .int 0], .tup [.tup (il q.x), .int (-1 - (v : Int))], .tup [.tup [.int (-2)], .int q.d]] := rfl
      rw [hp6]
      generalize il (0 :: q.x) = X1 at *
      generalize il (q.x ++ [last]) = X2 at *
      generalize il q.x = X3 at *
      simp [a1, a2, e1, h6]) ?_
    refine Rt.step [some (.ptr 0), some QD, some (.int last), some (.ptr (R.length + 1)), some (.tup (il q.x)), some (.int q.d)] (pu p1 :: (R ++ [.lst (pl (kindsL q last v))])) (by
      have hkl : pl (kindsL q last v) = pl [⟨[], q.d⟩, ⟨0 :: q.x, q.d⟩, ⟨q.x ++ [last], q.d⟩, ⟨q.x, 0⟩, ⟨q.x, -1 - v⟩, ⟨[-2], q.d⟩] ++ if 1 < q.x.length then [.tup [.tup (il (q.x.drop 1 ++ q.x.take 1)), .int q.d]] else [] := by
        unfold kindsL
        rw [pl, List.map_append]
        congr 1
        split <;> rfl
      rw [hkl]
      have h6 : (pl [⟨[], q.d⟩, ⟨0 :: q.x, q.d⟩, ⟨q.x ++ [last], q.d⟩, ⟨q.x, 0⟩, ⟨q.x, -1 - v⟩, ⟨[-2], q.d⟩]).length < big := by simp [big, PySem.sizeLine]
      generalize pl [⟨[], q.d⟩, ⟨0 :: q.x, q.d⟩, ⟨q.x ++ [last], q.d⟩, ⟨q.x, 0⟩, ⟨q.x, -1 - v⟩, ⟨[-2], q.d⟩] = K6 at *
      generalize il (q.x.drop 1 ++ q.x.take 1) = X4 at *
      generalize il (q.x.drop 1) = X5 at *
      generalize il (q.x.take 1) = X6 at *
      generalize hX : il q.x = X3 at *
      by_cases h1 : 1 < q.x.length
      · rw [if_pos h1]
        have h2 : (1 : Int) < (X3.length : Int) := by rw [hil]; omega
        simp [h1, h2, hil, c1, c2, a3, h6]
        omega
      · rw [if_neg h1]
        simp [h1, hil]
        intro h2; omega) ?_
    have hkll : (pl (kindsL q last v)).length = (kindsL q last v).length := by simp
    generalize pl (kindsL q last v) = K7 at *
    rw [← hkll] at e2
    exact Rt.of WD (pu p2 :: (R ++ [.lst K7])) (by simp [e2, hka]) ⟨rfl, rfl⟩
  obtain ⟨d, M', e, rfl, rfl⟩ := main
  rw [e]; exact hfin
end
end K29

/-! AF29 -/
set_option maxRecDepth 100000
set_option maxHeartbeats 4000000
namespace K29
open G
variable {W : Nat}
section
variable {M : Store} {n : Nat}
def lateP (q : Pc) (u : Nat) : Pc := ⟨q.x, 31 + (u : Int) * 100000000⟩
def greatP (q : Pc) (u : Nat) : Pc := ⟨(q.x.filter fun s => decide (s < 8)) ++ [9 + (u : Int)], q.d⟩
theorem late_E {q : Pc} (h : VP q) (u : Nat) : pskE (lateP q u) = none ∧ belE (lateP q u) = some (0, [.str "bells"]) :=
  ⟨h.no.1, by unfold belE many lateP; rw [if_pos (by simp only; omega)]⟩
theorem great_E {q : Pc} (h : VP q) (u : Nat) : pskE (greatP q u) = some (0, [.str "skills"]) := by
  unfold pskE greatP
  rw [List.findSome?_append]
  have : (q.x.filter fun s => decide (s < 8)).findSome? skpE = none := List.findSome?_eq_none_iff.mpr fun s hs => many_no (by
    have := (List.mem_filter.mp hs).2
    simp at this; omega)
  rw [this]
  simp only [List.findSome?_cons, skpE, many]
  rw [if_pos (by omega)]; rfl
theorem one_lens {lots : List (List Pc)} (h : ∀ l ∈ lots, l.length ≤ 10) : lots.findSome? lenE = none := List.findSome?_eq_none_iff.mpr fun l hm => many_no (by have := h l hm; omega)
theorem drop_bells {q : Pc} {u : Nat} {bad : List Pc} (h : VP q) (hb : bad.length ≤ 10) (hn : ∀ p ∈ bad, NoE p) : dropE [[q, lateP q u], bad] = some (0, [.str "bells"]) := by
  unfold dropE
  rw [one_lens (by intro l hl; simp at hl; rcases hl with rfl | rfl; (· simp); (· exact hb))]
  have e2 : bad.findSome? pskE = none := List.findSome?_eq_none_iff.mpr fun p hp => (hn p hp).1
  have e3 := late_E h u
  have e4 := h.no
  simp [e2, e3.1, e3.2, e4.1, e4.2]
theorem drop_skills {q : Pc} {u v : Nat} (h : VP q) : dropE [[lateP q u], [greatP q v]] = some (0, [.str "skills"]) := by
  unfold dropE
  rw [one_lens (by intro l hl; simp at hl; rcases hl with rfl | rfl <;> simp)]
  have e3 := late_E h u
  have e4 := great_E h v
  simp [e3.1, e4]
theorem hard_bells {q : Pc} {u : Nat} (h : VP q) : dropE [[q, lateP q u]] = some (0, [.str "bells"]) := by
  unfold dropE
  rw [one_lens (by simp)]
  have e3 := late_E h u
  have e4 := h.no
  simp [e3.1, e3.2, e4.1, e4.2]
theorem hard_skills {q : Pc} {u v : Nat} (h : VP q) : dropE [[greatP q v, lateP q u]] = some (0, [.str "skills"]) := by
  unfold dropE
  rw [one_lens (by simp)]
  have e4 := great_E h v
  simp [e4]
theorem drop_drops1 {q g : Pc} : dropE [[q], List.replicate 11 g] = some (0, [.str "drops"]) := by
  unfold dropE
  have : [[q], List.replicate 11 g].findSome? lenE = some (0, [.str "drops"]) := rfl
  rw [this]; rfl
theorem drop_drops2 {q : Pc} : dropE [List.replicate 11 q, []] = some (0, [.str "drops"]) := by
  unfold dropE
  have : [List.replicate 11 q, []].findSome? lenE = some (0, [.str "drops"]) := rfl
  rw [this]; rfl
/-- one wrong piece amid right ones -/
def badL (rows : List Pc) (v : Nat) (w : Pc) : List Pc := rows.take v ++ w :: rows.drop (v + 1)
theorem badL_no {rows : List Pc} {v : Nat} {w : Pc} (h : ∀ p ∈ rows, VP p) (hw : Wrong w) : ∀ p ∈ badL rows v w, NoE p := by
  intro p hp
  unfold badL at hp
  rcases List.mem_append.mp hp with hp | hp
  · exact (h p (List.mem_of_mem_take hp)).no
  · rcases List.mem_cons.mp hp with rfl | hp
    · exact hw.no
    · exact (h p (List.mem_of_mem_drop hp)).no
theorem badL_x {rows : List Pc} {v : Nat} {w : Pc} (h : ∀ p ∈ rows, VP p) (hw : Wrong w) : ∀ p ∈ badL rows v w, p.x.length ≤ 100000 := by
  intro p hp
  unfold badL at hp
  rcases List.mem_append.mp hp with hp | hp
  · have := (h p (List.mem_of_mem_take hp)).len; omega
  · rcases List.mem_cons.mp hp with rfl | hp
    · have := hw.len; omega
    · have := (h p (List.mem_of_mem_drop hp)).len; omega
theorem badL_len {rows : List Pc} {v : Nat} {w : Pc} (h : v < rows.length) : (badL rows v w).length = rows.length := by
  unfold badL; simp; omega
theorem wrong0 : Wrong ⟨[], 0⟩ := ⟨.inl rfl, by simp, by simp, by simp⟩
theorem at_bad {rows rest : List Pc} {v k : Nat} {w : Pc} (h : ∀ p ∈ rows, VP p) (hw : Wrong w) (hv : v < rows.length) (hl : rows.length ≤ 9) (hr : rest = [] ∨ rest = [⟨[], 0⟩]) :
    atE ((badL rows v w).take k) ((badL rows v w).drop k ++ rest) = some (1, [.int v]) := by
  have hno := badL_no (v := v) h hw
  have hlen := badL_len (w := w) hv
  unfold atE
  rw [dropE_none (by
    intro l hl'; simp at hl'; rcases hl' with rfl | rfl
    · rw [List.length_take]; omega
    · rcases hr with rfl | rfl <;> simp <;> omega) (by
    intro l hl' p hp; simp at hl'; rcases hl' with rfl | rfl
    · exact hno p (List.mem_of_mem_take hp)
    · rcases List.mem_append.mp hp with hp | hp
      · exact hno p (List.mem_of_mem_drop hp)
      · rcases hr with rfl | rfl
        · cases hp
        · simp at hp; subst hp; exact wrong0.no)]
  unfold pieceE
  have e : ([(badL rows v w).take k, (badL rows v w).drop k ++ rest]).flatten = rows.take v ++ w :: (rows.drop (v + 1) ++ rest) := by
    simp only [List.flatten_cons, List.flatten_nil, List.append_nil]
    rw [← List.append_assoc, List.take_append_drop]
    unfold badL; simp
  rw [e, piece_at (fun p hp => h p (List.mem_of_mem_take hp)) hw]
  have : (rows.take v).length = v := by simp; omega
  rw [this]; rfl
theorem hard_bad0 {w : Pc} {o : Pc} (hw : Wrong w) (ho : NoE o) : hardE w o = some (1, [.int (0 : Nat)]) := by
  unfold hardE
  rw [dropE_none (by simp) (by
    intro l hl p hp; simp at hl; subst hl; simp at hp
    rcases hp with rfl | rfl
    · exact hw.no
    · exact ho)]
  unfold pieceE
  have := piece_at (rows := []) (rest := [o]) (by simp) hw
  simp only [List.nil_append] at this
  simp only [List.flatten_cons, List.flatten_nil, List.append_nil]
  rw [this]; rfl
theorem hard_bad1 {q w : Pc} (hq : VP q) (hw : Wrong w) : hardE q w = some (1, [.int (1 : Nat)]) := by
  unfold hardE
  rw [dropE_none (by simp) (by
    intro l hl p hp; simp at hl; subst hl; simp at hp
    rcases hp with rfl | rfl
    · exact hq.no
    · exact hw.no)]
  unfold pieceE
  have := piece_at (rows := [q]) (rest := []) (by simpa using hq) hw
  simp only [List.cons_append, List.nil_append] at this
  simp only [List.flatten_cons, List.flatten_nil, List.append_nil]
  rw [this]; rfl
theorem hard_drop {a b : Pc} {e : Er1} (h : dropE [[a, b]] = some e) : hardE a b = some e := by unfold hardE; rw [h]; rfl
theorem at_drop {a b : List Pc} {e : Er1} (h : dropE [a, b] = some e) : atE a b = some e := by unfold atE; rw [h]; rfl
def mostP : Pc := ⟨[1, 2, 3, 4, 5, 6, 7, 8], 30⟩
theorem most_v : VP mostP := ⟨by simp [mostP], by simp [mostP], by simp [mostP], by simp [mostP], by simp [mostP]⟩
theorem fits_most {q : Pc} (h : VP q) : fits q mostP = true := fits_yes (fun s hs => by have := h.rng s hs; simp [mostP]; omega) (by have := h.d2; simp [mostP]; omega)
theorem sk1 : PySem.PyData.strOk "bad" = true := by decide +kernel
theorem sk2 : PySem.PyData.strOk "many" = true := by decide +kernel
theorem sk3 : PySem.PyData.strOk "bells" = true := by decide +kernel
theorem sk4 : PySem.PyData.strOk "skills" = true := by decide +kernel
theorem sk5 : PySem.PyData.strOk "drops" = true := by decide +kernel
theorem ne_p {s : PySem.Str} {i : Int} (h : PySem.PyData.strOk s = true) : cmpop .ne (.tup [.str s, .int i]) (.tup [.str s, .int i]) M = .ok (.bl false) M := ne_same (by simp [top_tup, okd, h])
theorem ne_q {s t : PySem.Str} (h : PySem.PyData.strOk s = true) (h' : PySem.PyData.strOk t = true) : cmpop .ne (.tup [.str s, .str t]) (.tup [.str s, .str t]) M = .ok (.bl false) M := ne_same (by simp [top_tup, okd, h, h'])
theorem mul_rep {x : D} {k : Nat} (hk : k ≤ 1000) : binop .mul (.lst [x]) (.int (k : Int)) M = .ok (.lst (List.replicate k x)) M := by
  rw [mul_li ⟨by omega, by omega, by simp [big, PySem.sizeLine]; omega⟩]
  simp
theorem add_pp {i j : Nat} {xs ys : List D} (h1 : M[i]? = some (.lst xs)) (h2 : M[j]? = some (.lst ys)) (hb : xs.length + ys.length ≤ big) : binop .add (.ptr i) (.ptr j) M = .ok (.lst (xs ++ ys)) M := by
  show (match listOf M (.ptr i), listOf M (.ptr j) with | some xs, some ys => if xs.length + ys.length ≤ big then Res.ok (D.lst (xs ++ ys)) M else .stuck | _, _ => .stuck) = _
  rw [listOf_ptr, listOf_ptr, h1, h2]
  exact if_pos hb
theorem pow_8 : binop .pow (.int 10) (.int 8) M = .ok (.int 100000000) M := by rw [pow_ii (by decide)]; rfl
end
end K29

/-! AG29 -/
set_option maxRecDepth 100000
set_option maxHeartbeats 4000000
namespace K29
open G
variable {W : Nat}
section
variable {M : Store} {n : Nat}
theorem law_refused (p : Int × Int × Int) (pool : List Int) (most : Nat) {R : Store} (hp : PO pool) (hm : 1 ≤ most ∧ most ≤ 30) (hR : Cl R) (hn : 10 < n) (hW : 100000 < W) : ∃ p', callF P W (n + 7) 29 [.ptr 0, .lst (il pool), .int most] (pu p :: R) = .ok (.bl true) (pu p' :: R) := by
  rw [callF_eq (k := f29) rfl rfl]
  obtain ⟨k1, p1, hk1, e1⟩ := drawZ (W := W) (n := n + 5) p 4 (by omega) (by omega) R
  obtain ⟨f, p2, hfl, hfv, e2⟩ := law_lot (W := W) (n := n + 2) p1 pool most (1 + k1) hp hm (by omega) hR
  have hR1 : Cl (R ++ [.lst (pl f)]) := hR.snoc fun k => underDs_pl
  obtain ⟨k2, p3, hk2, e3⟩ := drawZ (W := W) (n := n + 5) p2 4 (by omega) (by omega) (R ++ [.lst (pl f)])
  obtain ⟨s, p4, hsl, hsv, e4⟩ := law_lot (W := W) (n := n + 2) p3 pool most (1 + k2) hp hm (by omega) hR1
  have hR2 : Cl (R ++ [.lst (pl f)] ++ [.lst (pl s)]) := hR1.snoc fun k => underDs_pl
  generalize hS2 : R ++ [.lst (pl f)] ++ [.lst (pl s)] = S2 at *
  obtain ⟨v, p5, hv, e5⟩ := drawN (W := W) (n := n + 5) p4 (f.length + s.length) (by omega) (by omega) S2
  have hg1 : ∀ p, (pu p :: S2)[R.length + 1]? = some (.lst (pl f)) := fun p => by
    rw [← hS2, List.getElem?_cons_succ, List.append_assoc]; exact st0
  have hg2 : ∀ p, (pu p :: S2)[R.length + 1 + 1]? = some (.lst (pl s)) := fun p => by
    rw [← hS2, List.getElem?_cons_succ]
    have := st0 (R := R ++ [Ob.lst (pl f)]) (r := []) (a := Ob.lst (pl s))
    simpa using this
  have a1 : ∀ p, binop .add (.ptr (R.length + 1)) (.ptr (R.length + 1 + 1)) (pu p :: S2) = .ok (.lst (pl (f ++ s))) (pu p :: S2) := fun p => by
    rw [add_pp (hg1 p) (hg2 p) (by simp [big, PySem.sizeLine]; omega)]; simp
  have hrv : ∀ q ∈ f ++ s, VP q := fun q hq => by
    rcases List.mem_append.mp hq with hq | hq
    · exact (hfv q hq).v
    · exact (hsv q hq).v
  have hrl : (f ++ s).length = f.length + s.length := by simp
  generalize hrows : f ++ s = rows at *
  have hvr : v < rows.length := by omega
  have hgv : rows[v]? = some rows[v] := by simp [hvr]
  have hav := pl_get hgv
  obtain ⟨w, p6, hw, e6⟩ := law_wrong (W := W) (n := n + 4) p5 (hrv _ (List.getElem_mem hvr)) hR2
  have hxb := badL_x (v := v) hrv hw
  have hbn := badL_no (v := v) hrv hw
  have hbl := badL_len (w := w) hvr
  have ct1 : cutd (pl rows) none (some (v : Int)) = pl (rows.take v) := by rw [cut_to]; simp [List.map_take]
  have ct2 : cutd (pl rows) (some ((v : Int) + 1)) none = pl (rows.drop (v + 1)) := by
    have := cut_from (xs := pl rows) (k := v + 1)
    simp only [Int.natCast_add, Int.natCast_one] at this
    rw [this]; simp [List.map_drop]
  have a2 : ∀ M : Store, binop .add (.lst (pl (rows.take v))) (.lst [w.D]) M = .ok (.lst (pl (rows.take v ++ [w]))) M := fun M => by
    rw [add_ll (by simp [big, PySem.sizeLine]; omega)]; simp
  have a3 : ∀ M : Store, binop .add (.lst (pl (rows.take v ++ [w]))) (.lst (pl (rows.drop (v + 1)))) M = .ok (.lst (pl (badL rows v w))) M := fun M => by
    rw [add_ll (by simp [big, PySem.sizeLine]; omega)]; simp [badL]
  -- two lots with a wrong piece
  have c1 : cutd (pl (badL rows v w)) none (some (f.length : Int)) = pl ((badL rows v w).take f.length) := by rw [cut_to]; simp [List.map_take]
  have c2 : cutd (pl (badL rows v w)) (some (f.length : Int)) none = pl ((badL rows v w).drop f.length) := by rw [cut_from]; simp [List.map_drop]
  have t1 : callF P W (n + 6) 24 [.lst (pl ((badL rows v w).take f.length)), .lst (pl ((badL rows v w).drop f.length))] (pu p6 :: S2) = .ok (.tup [.str "bad", .int v]) (pu p6 :: S2) := by
    have h := at_bad (rest := []) (k := f.length) hrv hw hvr (by omega) (.inl rfl)
    rw [List.append_nil] at h
    exact told_err (n := n + 1) h (.inr rfl) (by rw [List.length_take]; omega) (by rw [List.length_drop]; omega) (by rw [List.take_append_drop]; exact hxb) (by omega) hW
  have t2 : callF P W (n + 6) 24 [.lst (pl ((badL rows v w).take f.length)), .lst (pl ((badL rows v w).drop f.length ++ [⟨[], 0⟩]))] (pu p6 :: S2) = .ok (.tup [.str "bad", .int v]) (pu p6 :: S2) := by
    have h := at_bad (rest := [⟨[], 0⟩]) (k := f.length) hrv hw hvr (by omega) (.inr rfl)
    refine told_err (n := n + 1) h (.inr rfl) (by rw [List.length_take]; omega) (by simp; omega) ?_ (by omega) hW
    rw [← List.append_assoc, List.take_append_drop]
    intro q hq
    rcases List.mem_append.mp hq with hq | hq
    · exact hxb q hq
    · simp at hq; subst hq; simp
  have a4 : ∀ M : Store, binop .add (.lst (pl ((badL rows v w).drop f.length))) (.lst [.tup [.tup [], .int 0]]) M = .ok (.lst (pl ((badL rows v w).drop f.length ++ [⟨[], 0⟩]))) M := fun M => by
    rw [add_ll (by simp [big, PySem.sizeLine]; omega)]; simp [Pc.D]
  -- a piece with a wrong one
  have h0r : 0 < rows.length := by omega
  have hg0 : rows[0]? = some rows[0] := by simp [h0r]
  have ha0 := pl_get hg0
  have hv0 := hrv _ (List.getElem_mem h0r)
  obtain ⟨w2, p7, hw2, e7⟩ := law_wrong (W := W) (n := n + 4) p6 hv0 hR2
  have t3 : callF P W (n + 6) 26 [w2.D, .tup [.tup [], .int 0]] (pu p7 :: S2) = .ok (.tup [.str "bad", .int 0]) (pu p7 :: S2) :=
    hard_err (n := n + 1) (b := ⟨[], 0⟩) (hard_bad0 hw2 wrong0.no) (.inr rfl) ⟨by have := hw2.len; omega, by simp⟩
  obtain ⟨w3, p8, hw3, e8⟩ := law_wrong (W := W) (n := n + 4) p7 hv0 hR2
  have t4 : callF P W (n + 6) 26 [rows[0].D, w3.D] (pu p8 :: S2) = .ok (.tup [.str "bad", .int 1]) (pu p8 :: S2) :=
    hard_err (n := n + 1) (hard_bad1 hv0 hw3) (.inr rfl) ⟨by have := hv0.len; omega, by have := hw3.len; omega⟩
  -- bounds
  obtain ⟨j, p9, hj, e9⟩ := drawN (W := W) (n := n + 5) p8 rows.length (by omega) (by omega) S2
  have hgj : rows[j]? = some rows[j] := by simp [hj]
  have haj := pl_get hgj
  have hvq := hrv _ (List.getElem_mem hj)
  generalize hq : rows[j] = q at *
  obtain ⟨u, p10, hu, e10⟩ := drawZ (W := W) (n := n + 5) p9 9 (by omega) (by omega) S2
  obtain ⟨u2, p11, hu2, e11⟩ := drawZ (W := W) (n := n + 5) p10 9 (by omega) (by omega) S2
  have hql := hvq.len
  have hlx : (lateP q u).x.length ≤ 100000 := by show q.x.length ≤ 100000; omega
  have hgx : (greatP q u2).x.length ≤ 100000 := by
    have := List.length_filter_le (fun s => decide (s < (8 : Int))) q.x
    simp [greatP]; omega
  have hlc : lcA (lcT P W (callF P W (n + 6)) [some (.ptr 0), some (.lst (il pool)), some (.int most), some (.ptr (R.length + 1)), some (.ptr (R.length + 1 + 1)), some (.int v), some (.lst (pl rows)), some (.lst (pl (badL rows v w))), some (.tup [.tup (il q.x), .int q.d]), some (.tup [.tup (il q.x), .int (31 + (u : Int) * 100000000)]), none, none, none] (.n 12) (.cons (.cmp .lt (.v 12) (.int 8)) .nil) (.v 12)) (il q.x) [] (pu p10 :: S2) = .ok ([] ++ (q.x.filter fun s => decide (s < 8)).map D.int) (pu p10 :: S2) :=
    lcA_filter (g := D.int) (fun s _ => by
      generalize pl rows = RWS at *
      generalize pl (badL rows v w) = BD at *
      cases h : decide (s < 8) <;> simp at h <;> simp [lcT_app, gslots, wipeR, h, Res.noerr] <;> (try omega)
      all_goals (first | omega | (intro h2; omega) | skip)) (by simp [big, PySem.sizeLine]; omega)
  rw [List.nil_append] at hlc
  change _ = Res.ok (il (q.x.filter fun s => decide (s < 8))) _ at hlc
  have a5 : ∀ M : Store, binop .add (.lst (il (q.x.filter fun s => decide (s < 8)))) (.lst [.int (9 + (u2 : Int))]) M = .ok (.lst (il (greatP q u2).x)) M := fun M => by
    have := List.length_filter_le (fun s => decide (s < (8 : Int))) q.x
    rw [add_ll (by simp [big, PySem.sizeLine]; omega)]; simp [greatP]
  have t5 : callF P W (n + 6) 24 [.lst [q.D, (lateP q u).D], .lst (pl (badL rows v w))] (pu p11 :: S2) = .ok (.tup [.str "many", .str "bells"]) (pu p11 :: S2) :=
    told_err (n := n + 1) (first := [q, lateP q u]) (at_drop (drop_bells hvq (by omega) hbn)) (.inl rfl) (by simp) (by omega) (by
      intro x hx
      rcases List.mem_append.mp hx with hx | hx
      · simp at hx; rcases hx with rfl | rfl
        · omega
        · exact hlx
      · exact hxb x hx) (by omega) hW
  have t6 : callF P W (n + 6) 24 [.lst [(lateP q u).D], .lst [(greatP q u2).D]] (pu p11 :: S2) = .ok (.tup [.str "many", .str "skills"]) (pu p11 :: S2) :=
    told_err (n := n + 1) (first := [lateP q u]) (second := [greatP q u2]) (at_drop (drop_skills hvq)) (.inl rfl) (by simp) (by simp) (by
      intro x hx
      simp at hx; rcases hx with rfl | rfl
      · exact hlx
      · exact hgx) (by omega) hW
  have t7 : callF P W (n + 6) 26 [q.D, (lateP q u).D] (pu p11 :: S2) = .ok (.tup [.str "many", .str "bells"]) (pu p11 :: S2) :=
    hard_err (n := n + 1) (hard_drop (hard_bells hvq)) (.inl rfl) ⟨by omega, hlx⟩
  have t8 : callF P W (n + 6) 26 [(greatP q u2).D, (lateP q u).D] (pu p11 :: S2) = .ok (.tup [.str "many", .str "skills"]) (pu p11 :: S2) :=
    hard_err (n := n + 1) (hard_drop (hard_skills hvq)) (.inl rfl) ⟨hgx, hlx⟩
  have t9 : callF P W (n + 6) 24 [.lst [(lateP q u).D], .lst (List.replicate 11 (greatP q u2).D)] (pu p11 :: S2) = .ok (.tup [.str "many", .str "drops"]) (pu p11 :: S2) := by
    have := told_err (W := W) (M := pu p11 :: S2) (n := n + 1) (first := [lateP q u]) (second := List.replicate 11 (greatP q u2)) (at_drop drop_drops1) (.inl rfl) (by simp) (by simp) (by
      intro x hx
      rcases List.mem_append.mp hx with hx | hx
      · simp at hx; subst hx; exact hlx
      · rw [(List.mem_replicate.mp hx).2]; exact hgx) (by omega) hW
    rw [show pl (List.replicate 11 (greatP q u2)) = List.replicate 11 (greatP q u2).D by simp] at this
    exact this
  have t10 : callF P W (n + 6) 24 [.lst (List.replicate 11 q.D), .lst []] (pu p11 :: S2) = .ok (.tup [.str "many", .str "drops"]) (pu p11 :: S2) := by
    have := told_err (W := W) (M := pu p11 :: S2) (n := n + 1) (first := List.replicate 11 q) (second := []) (at_drop drop_drops2) (.inl rfl) (by simp) (by simp) (by
      intro x hx
      rw [List.append_nil] at hx
      rw [(List.mem_replicate.mp hx).2]; omega) (by omega) hW
    rw [show pl (List.replicate 11 q) = List.replicate 11 q.D by simp] at this
    exact this
  have m1 : binop .mul (.lst [(greatP q u2).D]) (.int 11) (pu p11 :: S2) = .ok (.lst (List.replicate 11 (greatP q u2).D)) (pu p11 :: S2) := mul_rep (k := 11) (by omega)
  have m2 : binop .mul (.lst [q.D]) (.int 11) (pu p11 :: S2) = .ok (.lst (List.replicate 11 q.D)) (pu p11 :: S2) := mul_rep (k := 11) (by omega)
  have m3 : binop .mul (.lst [mostP.D]) (.int 2) (pu p11 :: S2) = .ok (.lst (List.replicate 2 mostP.D)) (pu p11 :: S2) := mul_rep (k := 2) (by omega)
  -- the greatest piece
  have t11 : callF P W (n + 6) 25 [.lst (List.replicate 2 mostP.D), .lst [q.D, mostP.D]] (pu p11 :: S2) = .ok (.bl true) (pu p11 :: S2) :=
    law_right (first := [mostP, mostP]) (second := [q, mostP]) (.inl rfl) (.inl rfl) (atE_none ⟨by simp, by intro x hx; simp at hx; subst hx; exact most_v⟩ ⟨by simp, by
      intro x hx; simp at hx; rcases hx with rfl | rfl
      · exact hvq
      · exact most_v⟩) (by simp) (by simp) (by
      intro x hx; simp at hx; rcases hx with rfl | rfl | rfl
      · have := most_v.len; omega
      · omega
      · have := most_v.len; omega) hn hW
  have t12 : callF P W (n + 6) 26 [q.D, mostP.D] (pu p11 :: S2) = .ok (.bl true) (pu p11 :: S2) := by
    have := hard_ok (W := W) (M := pu p11 :: S2) (n := n + 1) (hardE_none hvq most_v) ⟨by omega, by have := most_v.len; omega⟩
    rw [fits_most hvq] at this
    exact this
  refine ⟨p11, ?_⟩
  have hmm : [D.ptr 0, .lst (il pool), .int most].map some ++ List.replicate (f29.names.length - f29.np) none = [some (.ptr 0), some (.lst (il pool)), some (.int most), none, none, none, none, none, none, none, none, none, none] := rfl
  have hb : f29.body = b29 := rfl
  have ht : f29.trunc = true := rfl
  rw [hmm, hb, ht]
  have main : Rt (runSs P W (callF P W (n + 6)) b29 [some (.ptr 0), some (.lst (il pool)), some (.int most), none, none, none, none, none, none, none, none, none, none] (pu p :: R)) (fun d M' => d = .bl true ∧ M' = pu p11 :: S2) := by
    have n1 := fun (M : Store) (i : Int) => ne_p (M := M) (i := i) sk1
    have n2 := fun (M : Store) => ne_q (M := M) sk2 sk3
    have n3 := fun (M : Store) => ne_q (M := M) sk2 sk4
    have n4 := fun (M : Store) => ne_q (M := M) sk2 sk5
    have lf : ((pl f).length : Int) = (f.length : Int) := by simp
    have ls : ((pl s).length : Int) = (s.length : Int) := by simp
    have lr : ((pl rows).length : Int) = (rows.length : Int) := by simp
    have hN : n + 5 + 1 = n + 6 := rfl
    rw [hN] at e1 e3 e5 e9 e10 e11
    have hN2 : n + 2 + 4 = n + 6 := rfl
    rw [hN2] at e2 e4
    have hN3 : n + 4 + 2 = n + 6 := rfl
    rw [hN3] at e6 e7 e8
    simp only [Int.natCast_add, Int.natCast_one] at e2 e4 e5
    have hQD : D.tup [.tup (il q.x), .int q.d] = q.D := rfl
    have hLD : D.tup [.tup (il q.x), .int (31 + (u : Int) * 100000000)] = (lateP q u).D := rfl
    have hGD : D.tup [.tup (il (greatP q u2).x), .int q.d] = (greatP q u2).D := rfl
    have hMD : D.tup [.tup [.int 1, .int 2, .int 3, .int 4, .int 5, .int 6, .int 7, .int 8], .int 30] = mostP.D := rfl
    have hVD : D.tup [.tup (il rows[v].x), .int rows[v].d] = rows[v].D := rfl
    have h0D : D.tup [.tup (il rows[0].x), .int rows[0].d] = rows[0].D := rfl
    have hgq0 : ∀ M : Store, ixd M q.D (.int 0) = .ok (.tup (il q.x)) M := fun M => by simp [pc_D, at0]
    have hgq1 : ∀ M : Store, ixd M q.D (.int 1) = .ok (.int q.d) M := fun M => by simp [pc_D, at1]
    have hmu : ∀ M : Store, binop .mul (.int (u : Int)) (.int 100000000) M = .ok (.int ((u : Int) * 100000000)) M := fun M => mul_ii (.inl (by omega))
    rw [hVD] at hav
    rw [h0D] at ha0
    rw [hQD] at haj
    rw [hQD, hLD] at hlc
    have hRl : (R ++ [Ob.lst (pl f)]).length = R.length + 1 := by simp
    rw [hRl] at e4
    generalize rows[v].D = VD at *
    generalize rows[0].D = OD at *
    generalize q.D = QD at *
    generalize (lateP q u).D = LD at *
    generalize (greatP q u2).D = GD at *
    generalize hmd : mostP.D = MD at *
    generalize w.D = WD at *
    generalize w2.D = WD2 at *
    generalize w3.D = WD3 at *
    generalize il (greatP q u2).x = GX at *
    generalize il (q.x.filter fun s => decide (s < 8)) = FX at *
    generalize il q.x = QX at *
    generalize il pool = PO at *
    generalize pl ((badL rows v w).drop f.length ++ [⟨[], 0⟩]) = BD2 at *
    generalize pl ((badL rows v w).drop f.length) = BD at *
    generalize pl ((badL rows v w).take f.length) = BT at *
    generalize pl (badL rows v w) = BL at *
    generalize pl (rows.take v ++ [w]) = RT2 at *
    generalize pl (rows.take v) = RT at *
    generalize pl (rows.drop (v + 1)) = RD at *
    generalize pl rows = RO at *
    generalize pl f = F at *
    generalize pl s = S at *
    have hg1s : S2[R.length]? = some (.lst F) := hg1 p1
    have hg2s : S2[R.length + 1]? = some (.lst S) := hg2 p1
    have ha0' : L2.atI RO (0 : Int) = some OD := ha0
    generalize List.replicate 11 GD = G11 at *
    generalize List.replicate 11 QD = Q11 at *
    generalize List.replicate 2 MD = M2 at *
    have big8 : (8 ≤ big) = True := by simp [big, PySem.sizeLine]
    simp only [b29, rSs_cons]
    refine Rt.step [some (.ptr 0), some (.lst PO), some (.int most), some (.ptr (R.length + 1)), none, none, none, none, none, none, none, none, none] (pu p2 :: (R ++ [.lst F])) (by simp [e1, e2]) ?_
    refine Rt.step [some (.ptr 0), some (.lst PO), some (.int most), some (.ptr (R.length + 1)), some (.ptr (R.length + 1 + 1)), none, none, none, none, none, none, none, none] (pu p4 :: S2) (by simp [e3, e4, hS2]) ?_
    refine Rt.step [some (.ptr 0), some (.lst PO), some (.int most), some (.ptr (R.length + 1)), some (.ptr (R.length + 1 + 1)), some (.int v), none, none, none, none, none, none, none] (pu p5 :: S2) (by simp [hg1s, hg2s, lf, ls, e5]) ?_
    refine Rt.step [some (.ptr 0), some (.lst PO), some (.int most), some (.ptr (R.length + 1)), some (.ptr (R.length + 1 + 1)), some (.int v), some (.lst RO), none, none, none, none, none, none] (pu p5 :: S2) (by simp [a1]) ?_
    refine Rt.step [some (.ptr 0), some (.lst PO), some (.int most), some (.ptr (R.length + 1)), some (.ptr (R.length + 1 + 1)), some (.int v), some (.lst RO), some (.lst BL), none, none, none, none, none] (pu p6 :: S2) (by simp [hav, ct1, e6, a2, ct2, a3]) ?_
    refine Rt.step [some (.ptr 0), some (.lst PO), some (.int most), some (.ptr (R.length + 1)), some (.ptr (R.length + 1 + 1)), some (.int v), some (.lst RO), some (.lst BL), none, none, none, none, none] (pu p6 :: S2) (by simp [hg1s, lf, c1, c2, t1, n1]) ?_
    refine Rt.step [some (.ptr 0), some (.lst PO), some (.int most), some (.ptr (R.length + 1)), some (.ptr (R.length + 1 + 1)), some (.int v), some (.lst RO), some (.lst BL), none, none, none, none, none] (pu p6 :: S2) (by simp [hg1s, lf, c1, c2, a4, t2, n1]) ?_
    refine Rt.step [some (.ptr 0), some (.lst PO), some (.int most), some (.ptr (R.length + 1)), some (.ptr (R.length + 1 + 1)), some (.int v), some (.lst RO), some (.lst BL), none, none, none, none, none] (pu p7 :: S2) (by simp [ha0', e7, t3, n1]) ?_
    refine Rt.step [some (.ptr 0), some (.lst PO), some (.int most), some (.ptr (R.length + 1)), some (.ptr (R.length + 1 + 1)), some (.int v), some (.lst RO), some (.lst BL), none, none, none, none, none] (pu p8 :: S2) (by simp [ha0', e8, t4, n1]) ?_
    refine Rt.step [some (.ptr 0), some (.lst PO), some (.int most), some (.ptr (R.length + 1)), some (.ptr (R.length + 1 + 1)), some (.int v), some (.lst RO), some (.lst BL), some QD, none, none, none, none] (pu p9 :: S2) (by simp [lr, e9, haj]) ?_
    refine Rt.step [some (.ptr 0), some (.lst PO), some (.int most), some (.ptr (R.length + 1)), some (.ptr (R.length + 1 + 1)), some (.int v), some (.lst RO), some (.lst BL), some QD, some LD, none, none, none] (pu p10 :: S2) (by simp only [rS_asg, rE_tup, rA_cons, rA_nil, rE_ix, rE_v, rE_int, rE_bin, rE_call, List.getElem?_cons_zero, List.getElem?_cons_succ, onV_some, zbind_ok, hgq0, e10, pow_8, hmu, add_ii, List.length_cons, List.length_nil, Nat.zero_add, Nat.reduceAdd, big_2, if_true, hLD, zwith_ok, bindG_n, oO_some, List.set_cons_succ, List.set_cons_zero]) ?_
    refine Rt.step [some (.ptr 0), some (.lst PO), some (.int most), some (.ptr (R.length + 1)), some (.ptr (R.length + 1 + 1)), some (.int v), some (.lst RO), some (.lst BL), some QD, some LD, some GD, none, none] (pu p11 :: S2) (by simp only [rS_asg, rE_tup, rA_cons, rA_nil, rE_ix, rE_v, rE_int, rE_bin, rE_call, rE_bi, rE_lst, rE_lc, rI_val, walk_tup, onO_some, lcW_items, List.getElem?_cons_zero, List.getElem?_cons_succ, onV_some, zbind_ok, hgq0, hgq1, hlc, newL_f, e11, add_ii, List.length_cons, List.length_nil, Nat.zero_add, Nat.reduceAdd, big_1, big_2, if_true, a5, bi_tuple, seqOf_lst, hGD, zwith_ok, bindG_n, oO_some, List.set_cons_succ, List.set_cons_zero]) ?_
    refine Rt.step [some (.ptr 0), some (.lst PO), some (.int most), some (.ptr (R.length + 1)), some (.ptr (R.length + 1 + 1)), some (.int v), some (.lst RO), some (.lst BL), some QD, some LD, some GD, none, none] (pu p11 :: S2) (by simp [t5, t6, n2, n3]) ?_
    refine Rt.step [some (.ptr 0), some (.lst PO), some (.int most), some (.ptr (R.length + 1)), some (.ptr (R.length + 1 + 1)), some (.int v), some (.lst RO), some (.lst BL), some QD, some LD, some GD, none, none] (pu p11 :: S2) (by simp [t7, t8, n2, n3]) ?_
    refine Rt.step [some (.ptr 0), some (.lst PO), some (.int most), some (.ptr (R.length + 1)), some (.ptr (R.length + 1 + 1)), some (.int v), some (.lst RO), some (.lst BL), some QD, some LD, some GD, none, none] (pu p11 :: S2) (by simp [m1, m2, t9, t10, n4]) ?_
    refine Rt.step [some (.ptr 0), some (.lst PO), some (.int most), some (.ptr (R.length + 1)), some (.ptr (R.length + 1 + 1)), some (.int v), some (.lst RO), some (.lst BL), some QD, some LD, some GD, some MD, none] (pu p11 :: S2) (by
      simp [← hmd, ← hMD, big8]
      rfl) ?_
    exact Rt.of (.bl true) (pu p11 :: S2) (by simp [m3, t11, t12]) ⟨rfl, rfl⟩
  obtain ⟨d, M', e, rfl, rfl⟩ := main
  rw [e]
  exact finish_rt_cut2 (N := pu p11 :: R) (R := [.lst (pl f), .lst (pl s)]) (by rw [← hS2]; simp) (by simp) rfl (hR.pu _ _)
end
end K29

/-! AH29 -/
set_option maxRecDepth 100000
set_option maxHeartbeats 4000000
namespace K29
open G
variable {W : Nat}
section
variable {M : Store} {n : Nat}
theorem lx {a b : List Pc} (ha : VL a) (hb : VL b) : ∀ p ∈ a ++ b, p.x.length ≤ 100000 := by
  intro p hp
  rcases List.mem_append.mp hp with hp | hp
  · have := (ha.all p hp).len; omega
  · have := (hb.all p hp).len; omega
theorem K29law (ns : List Int) : ∃ M, callF P (2 ^ 40) 30 30 [.scr ns] [] = .ok (.bl true) M := by
  have hW : 100000 < 2 ^ 40 := by decide
  generalize (2 ^ 40 : Nat) = W at *
  rw [callF_eq (n := 29) (k := f30) rfl rfl]
  obtain ⟨p0, e0⟩ := purse (W := W) (n := 28) ns
  have hR0 : (([] : Store).all (underO (([] : Store).length + 1))) = true := rfl
  obtain ⟨zs, p1, hz, e1⟩ := mix_il (W := W) (n := 27) p0 [1, 2, 3, 4, 5, 6, 7, 8] [] (by simp) hR0
  obtain ⟨k2, p2, hk2, e2⟩ := drawZ (W := W) (n := 28) p1 5 (by omega) (by omega) []
  have hzl : zs.length = 8 := by rw [hz.length_eq]; rfl
  obtain ⟨m, hm, hm3⟩ : ∃ m : Nat, L2.atI [D.int 2, .int 3, .int 4, .int 4, .int 8] (k2 : Int) = some (.int m) ∧ 2 ≤ m := by
    have : k2 = 0 ∨ k2 = 1 ∨ k2 = 2 ∨ k2 = 3 ∨ k2 = 4 := by omega
    rcases this with rfl | rfl | rfl | rfl | rfl
    · exact ⟨2, rfl, by omega⟩
    · exact ⟨3, rfl, by omega⟩
    · exact ⟨4, rfl, by omega⟩
    · exact ⟨4, rfl, by omega⟩
    · exact ⟨8, rfl, by omega⟩
  have hpo : PO (zs.take m) := by
    refine ⟨(hz.symm.nodup (by decide)).sublist (List.take_sublist _ _), fun s hs => ?_, by simp; omega⟩
    have := hz.mem_iff.mp (List.mem_of_mem_take hs)
    simp at this; omega
  have cp : cutd (il zs) none (some (m : Int)) = il (zs.take m) := by rw [cut_to]; simp [il, List.map_take]
  generalize hpool : zs.take m = pool at *
  obtain ⟨k3, p3, hk3, e3⟩ := drawZ (W := W) (n := 28) p2 4 (by omega) (by omega) []
  obtain ⟨most, hmo, hmost⟩ : ∃ m : Nat, L2.atI [D.int 1, .int 2, .int 3, .int 30] (k3 : Int) = some (.int m) ∧ (1 ≤ m ∧ m ≤ 30) := by
    have : k3 = 0 ∨ k3 = 1 ∨ k3 = 2 ∨ k3 = 3 := by omega
    rcases this with rfl | rfl | rfl | rfl
    · exact ⟨1, rfl, by omega⟩
    · exact ⟨2, rfl, by omega⟩
    · exact ⟨3, rfl, by omega⟩
    · exact ⟨30, rfl, by omega⟩
  obtain ⟨k4, p4, hk4, e4⟩ := drawZ (W := W) (n := 28) p3 16 (by omega) (by omega) []
  obtain ⟨many, p5, hmany, e5⟩ : ∃ (many : Nat) (p5 : Int × Int × Int), (many ≤ 5 ∨ many = 10) ∧ (if k4 = 0 then (.ok (.int 10) [pu p4] : Res D) else callF P W 29 14 [.ptr 0, .int 6] [pu p4]) = .ok (.int many) [pu p5] := by
    by_cases h : k4 = 0
    · rw [if_pos h]; exact ⟨10, p4, .inr rfl, rfl⟩
    · rw [if_neg h]
      obtain ⟨k5, p5, hk5, e⟩ := drawZ (W := W) (n := 28) p4 6 (by omega) (by omega) []
      exact ⟨k5, p5, .inl (by omega), e⟩
  obtain ⟨laid, over, second, d1, d2, p6, v1, v2, v3, v4, v5, ⟨ps, sd⟩, vi, e6⟩ := law_cases (W := W) (n := 24) p5 pool most many hpo hmost hmany hW
  have q1 : [pu p6, .lst (pl second), .lst (pl d1), .lst (pl d2)][1]? = some (Ob.lst (pl second)) := rfl
  have q2 : [pu p6, .lst (pl second), .lst (pl d1), .lst (pl d2)][2]? = some (Ob.lst (pl d1)) := rfl
  have q3 : [pu p6, .lst (pl second), .lst (pl d1), .lst (pl d2)][3]? = some (Ob.lst (pl d2)) := rfl
  have s1 := short_none (opts_below laid second) sd
  have s2 := short_some (opts_below over second) vi
  have e7 : callF P W 29 22 [.lst (pl laid), .ptr 1] [pu p6, .lst (pl second), .lst (pl d1), .lst (pl d2)] = .ok .non [pu p6, .lst (pl second), .lst (pl d1), .lst (pl d2)] := by
    have := law_short (W := W) (M := [pu p6, .lst (pl second), .lst (pl d1), .lst (pl d2)]) (n := 27) (X := .lst (pl laid)) (Y := .ptr 1) (.inl rfl) (.inr ⟨1, rfl, q1⟩) v1.len (by have := v3.len; omega) v3.x hW
    rw [s1] at this
    exact this
  obtain ⟨d8, hd8, e8⟩ : ∃ d, isNon d = false ∧ callF P W 29 22 [.lst (pl over), .ptr 1] [pu p6, .lst (pl second), .lst (pl d1), .lst (pl d2)] = .ok d [pu p6, .lst (pl second), .lst (pl d1), .lst (pl d2)] := by
    have := law_short (W := W) (M := [pu p6, .lst (pl second), .lst (pl d1), .lst (pl d2)]) (n := 27) (X := .lst (pl over)) (Y := .ptr 1) (.inl rfl) (.inr ⟨1, rfl, q1⟩) v2.len (by have := v3.len; omega) v3.x hW
    cases h : shortO (opts over second) second.length with
    | none => exact absurd h s2
    | some x => rw [h] at this; exact ⟨_, rfl, this⟩
  have e9 : callF P W 29 25 [.lst (pl laid), .ptr 1] [pu p6, .lst (pl second), .lst (pl d1), .lst (pl d2)] = .ok (.bl true) [pu p6, .lst (pl second), .lst (pl d1), .lst (pl d2)] :=
    law_right (n := 23) (.inl rfl) (.inr ⟨1, rfl, q1⟩) (atE_none v1 v3) v1.len (by have := v3.len; omega) (lx v1 v3) (by omega) hW
  have e10 : callF P W 29 25 [.lst (pl over), .ptr 1] [pu p6, .lst (pl second), .lst (pl d1), .lst (pl d2)] = .ok (.bl true) [pu p6, .lst (pl second), .lst (pl d1), .lst (pl d2)] :=
    law_right (n := 23) (.inl rfl) (.inr ⟨1, rfl, q1⟩) (atE_none v2 v3) v2.len (by have := v3.len; omega) (lx v2 v3) (by omega) hW
  have e11 : callF P W 29 25 [.ptr 2, .ptr 3] [pu p6, .lst (pl second), .lst (pl d1), .lst (pl d2)] = .ok (.bl true) [pu p6, .lst (pl second), .lst (pl d1), .lst (pl d2)] :=
    law_right (n := 23) (.inr ⟨2, rfl, q2⟩) (.inr ⟨3, rfl, q3⟩) (atE_none v4 v5) v4.len (by have := v5.len; omega) (lx v4 v5) (by omega) hW
  have hhv : ∀ q ∈ laid.take 3 ++ second.take 3 ++ d1.take 2, VP q := fun q hq => by
    rcases List.mem_append.mp hq with hq | hq
    · rcases List.mem_append.mp hq with hq | hq
      · exact v1.all q (List.mem_of_mem_take hq)
      · exact v3.all q (List.mem_of_mem_take hq)
    · exact v4.all q (List.mem_of_mem_take hq)
  have e12 : callF P W 29 27 [.lst (pl (laid.take 3 ++ second.take 3 ++ d1.take 2))] [pu p6, .lst (pl second), .lst (pl d1), .lst (pl d2)] = .ok (.bl true) [pu p6, .lst (pl second), .lst (pl d1), .lst (pl d2)] :=
    harder_right (n := 23) (fun a ha b hb => hardE_none (hhv a ha) (hhv b hb)) (fun p hp => by have := (hhv p hp).len; omega)
  have c1 : cutd (pl laid) none (some 3) = pl (laid.take 3) := by
    have := cut_to (xs := pl laid) (k := 3)
    rw [show pl (laid.take 3) = (pl laid).take 3 by simp [List.map_take]]; exact this
  have c2 : cutd (pl second) none (some 3) = pl (second.take 3) := by
    have := cut_to (xs := pl second) (k := 3)
    rw [show pl (second.take 3) = (pl second).take 3 by simp [List.map_take]]; exact this
  have c3 : cutd (pl d1) none (some 2) = pl (d1.take 2) := by
    have := cut_to (xs := pl d1) (k := 2)
    rw [show pl (d1.take 2) = (pl d1).take 2 by simp [List.map_take]]; exact this
  have a1 : ∀ M : Store, binop .add (.lst (pl (laid.take 3))) (.lst (pl (second.take 3))) M = .ok (.lst (pl (laid.take 3 ++ second.take 3))) M := fun M => by
    rw [add_ll (by simp [big, PySem.sizeLine]; omega)]; simp
  have a2 : ∀ M : Store, binop .add (.lst (pl (laid.take 3 ++ second.take 3))) (.lst (pl (d1.take 2))) M = .ok (.lst (pl (laid.take 3 ++ second.take 3 ++ d1.take 2))) M := fun M => by
    rw [add_ll (by simp [big, PySem.sizeLine]; omega)]; simp
  have hcl : Cl [.lst (pl second), .lst (pl d1), .lst (pl d2)] := (((show Cl [] from fun _ => rfl).snoc (xs := pl second) fun k => underDs_pl).snoc (xs := pl d1) fun k => underDs_pl).snoc (xs := pl d2) fun k => underDs_pl
  obtain ⟨p7, e13⟩ := law_refused (W := W) (n := 22) p6 pool most hpo hmost hcl (by omega) hW
  have hmm : [D.scr ns].map some ++ List.replicate (f30.names.length - f30.np) none = [some (.scr ns), none, none, none, none, none, none, none] := rfl
  have main : Rt (runSs P W (callF P W 29) b30 [some (.scr ns), none, none, none, none, none, none, none] []) (fun d _ => d = .bl true) := by
    have hr19 : ∀ M : Store, lrgIJ false 1 9 M = .ok (.lst (il [1, 2, 3, 4, 5, 6, 7, 8])) M := fun M => rfl
    have hNa : 27 + 2 = 29 := rfl
    have hk40 : ((k4 : Int) == 0) = decide (k4 = 0) := by
      by_cases h : k4 = 0
      · subst h; rfl
      · rw [decide_eq_false h, beq_eq_false_iff_ne]; omega
    have hp3 : [pu p6, Ob.lst (pl second), .lst (pl d1), .lst (pl d2)] = pu p6 :: [.lst (pl second), .lst (pl d1), .lst (pl d2)] := rfl
    generalize pl (laid.take 3 ++ second.take 3 ++ d1.take 2) = L6 at *
    generalize pl (laid.take 3 ++ second.take 3) = L5 at *
    generalize pl (laid.take 3) = L1 at *
    generalize pl (second.take 3) = L2' at *
    generalize pl (d1.take 2) = L3 at *
    generalize pl laid = LA at *
    generalize pl over = OV at *
    generalize pl second = SE at *
    generalize pl d1 = D1 at *
    generalize pl d2 = D2 at *
    generalize il pool = PL at *
    generalize il zs = ZS at *
    generalize il [1, 2, 3, 4, 5, 6, 7, 8] = L18 at *
    have big5 : (5 ≤ big) = True := by simp [big, PySem.sizeLine]
    simp only [b30, rSs_cons]
    simp only [Nat.reduceAdd] at e0 e1 e2 e3 e4 e6 e13
    refine Rt.step [some (.scr ns), some (.ptr 0), none, none, none, none, none, none] [pu p0] (by simp [e0]) ?_
    refine Rt.step [some (.scr ns), some (.ptr 0), some (.lst PL), none, none, none, none, none] [pu p2] (by simp [hr19, e1, e2, hm, cp, big5]) ?_
    refine Rt.step [some (.scr ns), some (.ptr 0), some (.lst PL), some (.int most), none, none, none, none] [pu p3] (by simp [e3, hmo]) ?_
    refine Rt.step [some (.scr ns), some (.ptr 0), some (.lst PL), some (.int most), some (.int many), none, none, none] [pu p5] (by
      by_cases h : k4 = 0
      · rw [if_pos h] at e5
        subst h
        injection e5 with h1 h2
        injection h1 with h1
        rw [← h1, ← h2]
        simp [e4]
      · rw [if_neg h] at e5
        simp [e4, hk40, h, e5]) ?_
    refine Rt.step [some (.scr ns), some (.ptr 0), some (.lst PL), some (.int most), some (.int many), some (.lst [.lst [.lst LA, .ptr 1], .lst [.lst OV, .ptr 1], .lst [.ptr 2, .ptr 3]]), none, none] [pu p6, .lst SE, .lst D1, .lst D2] (by simp [e6]) ?_
    refine Rt.step [some (.scr ns), some (.ptr 0), some (.lst PL), some (.int most), some (.int many), some (.lst [.lst [.lst LA, .ptr 1], .lst [.lst OV, .ptr 1], .lst [.ptr 2, .ptr 3]]), none, none] [pu p6, .lst SE, .lst D1, .lst D2] (by simp [at0, at1, e7, e8, hd8]) ?_
    refine Rt.step [some (.scr ns), some (.ptr 0), some (.lst PL), some (.int most), some (.int many), some (.lst [.lst [.lst LA, .ptr 1], .lst [.lst OV, .ptr 1], .lst [.ptr 2, .ptr 3]]), some (.ptr 2), some (.ptr 3)] [pu p6, .lst SE, .lst D1, .lst D2] (by
      have hbl : ∀ (x y : D) (ρ : Rho), bindG (.t [6, 7]) (.lst [x, y]) ρ = some ((ρ.set 6 (some x)).set 7 (some y)) := fun x y ρ => rfl
      simp [forL, foT_app, b30_1, hbl, e9, e10, e11]) ?_
    refine Rt.step [some (.scr ns), some (.ptr 0), some (.lst PL), some (.int most), some (.int many), some (.lst [.lst [.lst LA, .ptr 1], .lst [.lst OV, .ptr 1], .lst [.ptr 2, .ptr 3]]), some (.ptr 2), some (.ptr 3)] [pu p6, .lst SE, .lst D1, .lst D2] (by
      have hs1 : sld [pu p6, Ob.lst SE, .lst D1, .lst D2] (.ptr 1) none (some 3) = .ok (.lst (cutd SE none (some 3))) [pu p6, Ob.lst SE, .lst D1, .lst D2] := rfl
      have hs2 : sld [pu p6, Ob.lst SE, .lst D1, .lst D2] (.ptr 2) none (some 2) = .ok (.lst (cutd D1 none (some 2))) [pu p6, Ob.lst SE, .lst D1, .lst D2] := rfl
      simp [at0, at1, at2, c1, c2, c3, hs1, hs2, a1, a2, e12]) ?_
    exact Rt.of (.bl true) (pu p7 :: [.lst SE, .lst D1, .lst D2]) (by simp [e13]) rfl
  obtain ⟨d, M', e, rfl⟩ := main
  refine ⟨[], ?_⟩
  have hb : f30.body = b30 := rfl
  rw [hmm, hb, e]
  exact finish_rt_cut rfl rfl
end
end K29

open PySem PySem.W PyProof.Rows
set_option maxHeartbeats 0 in
theorem PySem.Challenge.cw_whoevercomes_k29_pieces_laid_side_by_sid_holds : PySem.Challenge.rw_whoevercomes_k29_pieces_laid_side_by_sid.Holds := by
  w_on; o_law; k_head; (case hw => w_witness2)
  k_fill
  refine G.walk_g (l := PySem.Challenge.rw_whoevercomes_k29_pieces_laid_side_by_sid) (wf := 2 ^ 40) (n := 30) (lk := 30) rfl rfl ⟨rfl, by decide, by decide⟩ (fun ns _ => K29.K29law ns) (fun w h Y => PySem.W.km_in_of Y) ?F
  case F =>
    intro w mg fa h Y KX GG hmg
    have KT := PySem.W.km_tabs_of Y
    have KN := @G.km_no _ _ _ _ _ _ Y
    refine' K29T.all_mk (wf := 2 ^ 40) (n := 30) KX GG hmg ?a0 ?a1 ?a2 ?a3 ?a4 ?a5 ?a6 ?a7 ?a8 ?a9 ?a10 ?a11 ?a12 ?a13 ?a14 ?a15 ?a16 ?a17 ?a18 ?a19 ?a20 ?a21 ?a22 ?a23 ?a24 ?a25 ?a26 ?a27 ?a28 ?a29 ?a30 ?d0 ?t0 ?u0 ?d1 ?d2 ?d3 ?d4 ?d5 ?d6 ?d7 ?d8 ?d9 ?d10 ?d11 ?d12 ?d13 ?d14 ?d15 ?d16 ?t16 ?u16 ?d17 ?d18 ?d19 ?d20 ?d21 ?d22 ?d23 ?d24 ?d25 ?d26 ?d27 ?d28 ?d29 ?d30 ?tdis ?ae0 ?ek0 ?ik0 ?en0_what ?ae1 ?ek1 ?ik1 ?en1_place ?es0_0 ?es0_1 ?es1_0 ?es1_1 ?z_len ?z_sum ?z_max ?z_min ?z_abs ?z_int ?z_sorted ?z_list ?z_tuple ?z_any ?z_all ?z_isinstance ?z_range ?z_bool ?z_str
    (case a0 => k_is)
    (case a1 => k_is)
    (case a2 => k_is)
    (case a3 => k_is)
    (case a4 => k_is)
    (case a5 => k_is)
    (case a6 => k_is)
    (case a7 => k_is)
    (case a8 => k_is)
    (case a9 => k_is)
    (case a10 => k_is)
    (case a11 => k_is)
    (case a12 => k_is)
    (case a13 => k_is)
    (case a14 => k_is)
    (case a15 => k_is)
    (case a16 => k_is)
    (case a17 => k_is)
    (case a18 => k_is)
    (case a19 => k_is)
    (case a20 => k_is)
    (case a21 => k_is)
    (case a22 => k_is)
    (case a23 => k_is)
    (case a24 => k_is)
    (case a25 => k_is)
    (case a26 => k_is)
    (case a27 => k_is)
    (case a28 => k_is)
    (case a29 => k_is)
    (case a30 => k_is)
    (case d0 => (refine' G.Dkl.make ?_l ?_c ?_k; (case _l => k_is); (case _c => k_is); (case _k => k_is)))
    (case t0 => (refine' G.Tbk.make ?_l ?_v ?_h ?_n; (case _l => k_is); (case _v => rfl); (case _h => first | rfl | decide +kernel); (case _n => exact KN _ (by decide))))
    (case u0 => exact KT _ (by decide))
    (case d1 => (refine' G.Dk.make ?_l ?_c ?_k; (case _l => k_is); (case _c => k_is); (case _k => k_is)))
    (case d2 => (refine' G.Dk.make ?_l ?_c ?_k; (case _l => k_is); (case _c => k_is); (case _k => k_is)))
    (case d3 => (refine' G.Dk.make ?_l ?_c ?_k; (case _l => k_is); (case _c => k_is); (case _k => k_is)))
    (case d4 => (refine' G.Dk.make ?_l ?_c ?_k; (case _l => k_is); (case _c => k_is); (case _k => k_is)))
    (case d5 => (refine' G.Dk.make ?_l ?_c ?_k; (case _l => k_is); (case _c => k_is); (case _k => k_is)))
    (case d6 => (refine' G.Dk.make ?_l ?_c ?_k; (case _l => k_is); (case _c => k_is); (case _k => k_is)))
    (case d7 => (refine' G.Dk.make ?_l ?_c ?_k; (case _l => k_is); (case _c => k_is); (case _k => k_is)))
    (case d8 => (refine' G.Dk.make ?_l ?_c ?_k; (case _l => k_is); (case _c => k_is); (case _k => k_is)))
    (case d9 => (refine' G.Dk.make ?_l ?_c ?_k; (case _l => k_is); (case _c => k_is); (case _k => k_is)))
    (case d10 => (refine' G.Dk.make ?_l ?_c ?_k; (case _l => k_is); (case _c => k_is); (case _k => k_is)))
    (case d11 => (refine' G.Dk.make ?_l ?_c ?_k; (case _l => k_is); (case _c => k_is); (case _k => k_is)))
    (case d12 => (refine' G.Dk.make ?_l ?_c ?_k; (case _l => k_is); (case _c => k_is); (case _k => k_is)))
    (case d13 => (refine' G.Dk.make ?_l ?_c ?_k; (case _l => k_is); (case _c => k_is); (case _k => k_is)))
    (case d14 => (refine' G.Dk.make ?_l ?_c ?_k; (case _l => k_is); (case _c => k_is); (case _k => k_is)))
    (case d15 => (refine' G.Dk.make ?_l ?_c ?_k; (case _l => k_is); (case _c => k_is); (case _k => k_is)))
    (case d16 => (refine' G.Dkl.make ?_l ?_c ?_k; (case _l => k_is); (case _c => k_is); (case _k => k_is)))
    (case t16 => (refine' G.Tbk.make ?_l ?_v ?_h ?_n; (case _l => k_is); (case _v => rfl); (case _h => first | rfl | decide +kernel); (case _n => exact KN _ (by decide))))
    (case u16 => exact KT _ (by decide))
    (case d17 => (refine' G.Dk.make ?_l ?_c ?_k; (case _l => k_is); (case _c => k_is); (case _k => k_is)))
    (case d18 => (refine' G.Dk.make ?_l ?_c ?_k; (case _l => k_is); (case _c => k_is); (case _k => k_is)))
    (case d19 => (refine' G.Dk.make ?_l ?_c ?_k; (case _l => k_is); (case _c => k_is); (case _k => k_is)))
    (case d20 => (refine' G.Dk.make ?_l ?_c ?_k; (case _l => k_is); (case _c => k_is); (case _k => k_is)))
    (case d21 => (refine' G.Dk.make ?_l ?_c ?_k; (case _l => k_is); (case _c => k_is); (case _k => k_is)))
    (case d22 => (refine' G.Dk.make ?_l ?_c ?_k; (case _l => k_is); (case _c => k_is); (case _k => k_is)))
    (case d23 => (refine' G.Dk.make ?_l ?_c ?_k; (case _l => k_is); (case _c => k_is); (case _k => k_is)))
    (case d24 => (refine' G.Dk.make ?_l ?_c ?_k; (case _l => k_is); (case _c => k_is); (case _k => k_is)))
    (case d25 => (refine' G.Dk.make ?_l ?_c ?_k; (case _l => k_is); (case _c => k_is); (case _k => k_is)))
    (case d26 => (refine' G.Dk.make ?_l ?_c ?_k; (case _l => k_is); (case _c => k_is); (case _k => k_is)))
    (case d27 => (refine' G.Dk.make ?_l ?_c ?_k; (case _l => k_is); (case _c => k_is); (case _k => k_is)))
    (case d28 => (refine' G.Dk.make ?_l ?_c ?_k; (case _l => k_is); (case _c => k_is); (case _k => k_is)))
    (case d29 => (refine' G.Dk.make ?_l ?_c ?_k; (case _l => k_is); (case _c => k_is); (case _k => k_is)))
    (case d30 => (refine' G.Dk.make ?_l ?_c ?_k; (case _l => k_is); (case _c => k_is); (case _k => k_is)))
    (case tdis => decide)
    (case ae0 => k_is)
    (case ek0 => (refine' G.Ek1.make ?_a ?_b ?_c ?_d ?_e ?_f ?_g ?_h ?_i ?_j ?_k; (case _a => k_is); (case _b => first | rfl | decide +kernel); (case _c => k_is); (case _d => k_is); (case _e => k_is); (case _f => k_is); (case _g => k_is); (case _h => k_is); (case _i => k_is); (case _j => k_is); (case _k => k_is)))
    (case ik0 => (refine' G.Ik.make KX GG ?_a ?_b ?_c ?_d ?_e ?_f ?_g ?_h ?_i ?_j ?_k ?_l; (case _a => k_is); (case _b => k_is); (case _c => k_is); (case _d => rfl); (case _e => first | rfl | decide +kernel); (case _f => k_is); (case _g => ks_is); (case _h => first | k_is | rfl); (case _i => k_is); (case _j => k_is); (case _k => k_is); (case _l => first | rfl | decide +kernel)))
    (case en0_what => k_is)
    (case ae1 => k_is)
    (case ek1 => (refine' G.Ek1.make ?_a ?_b ?_c ?_d ?_e ?_f ?_g ?_h ?_i ?_j ?_k; (case _a => k_is); (case _b => first | rfl | decide +kernel); (case _c => k_is); (case _d => k_is); (case _e => k_is); (case _f => k_is); (case _g => k_is); (case _h => k_is); (case _i => k_is); (case _j => k_is); (case _k => k_is)))
    (case ik1 => (refine' G.Ik.make KX GG ?_a ?_b ?_c ?_d ?_e ?_f ?_g ?_h ?_i ?_j ?_k ?_l; (case _a => k_is); (case _b => k_is); (case _c => k_is); (case _d => rfl); (case _e => first | rfl | decide +kernel); (case _f => k_is); (case _g => ks_is); (case _h => first | k_is | rfl); (case _i => k_is); (case _j => k_is); (case _k => k_is); (case _l => first | rfl | decide +kernel)))
    (case en1_place => k_is)
    (case es0_0 => k_is)
    (case es0_1 => k_is)
    (case es1_0 => k_is)
    (case es1_1 => k_is)
    (case z_len => k_is)
    (case z_sum => k_is)
    (case z_max => k_is)
    (case z_min => k_is)
    (case z_abs => k_is)
    (case z_int => k_is)
    (case z_sorted => k_is)
    (case z_list => k_is)
    (case z_tuple => k_is)
    (case z_any => k_is)
    (case z_all => k_is)
    (case z_isinstance => k_is)
    (case z_range => k_is)
    (case z_bool => k_is)
    (case z_str => k_is)
