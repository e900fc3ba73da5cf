import PyProof.Rows.All
import Wide.All
import OpenK.AllK
import Wide.FinOn
import HandS.List
import HandS.ForMost
import HandS.TupAny
import HandS.SortInts
import HandS.IsInst
import HandS.Exc
import HandS.ExcOwn
import HandS.Small
import HandS.Conv
import HandS.TupLen
import HandS.SortRule
import KE.KTupSum
import HandS.TryOnly
import HandS.TryMany
import HandS.ExcInit
import HandS.ExcField
import HandS.Iter
import HandS.WordsExc
import KE.KExcSuper
import HandS.ExcIs
import HandS.Ends
import KE.RegKSuper
import PySem.Challenge.RW_whoevercomes_k30_hindsight_and_nested_sk
set_option Elab.async false
set_option linter.all false
set_option maxRecDepth 100000
/-! GCore -/
set_option maxRecDepth 100000
set_option maxHeartbeats 4000000
namespace G
open PySem (Str)

/-- data: lists are either plain (never changed again) or at a place of the store -/
inductive D where
  | non
  | bl (b : Bool)
  | int (i : Int)
  | str (x : Str)
  | tup (xs : List D)
  | lst (xs : List D)
  | scr (ns : List Int)
  | ptr (n : Nat)
  deriving Inhabited

/-- what stands at a place of the store -/
inductive Ob where
  | dead
  | lst (xs : List D)
  | ins (c : Nat) (fs : List (Nat × D))
  /-- a dict, its keys ints and texts (or tuples of these); one that a loop walks: read, not written -/
  | dic (tk : Bool) (kvs : List (D × D))
  | fdic (tk : Bool) (kvs : List (D × D))

/-- it may be changed -/
def Ob.hot : Ob → Bool
  | .dead => false
  | .fdic _ _ => false
  | _ => true

abbrev Store := List Ob
abbrev Rho := List (Option D)

inductive Res (α : Type) where
  | ok (a : α) (M : Store)
  | err (c : Nat) (fs : List D) (M : Store)
  | stuck

def Res.bind {α β : Type} (r : Res α) (f : α → Store → Res β) : Res β :=
  match r with
  | .ok a M => f a M
  | .err c fs M => .err c fs M
  | .stuck => .stuck

@[simp] theorem bind_ok {α β : Type} (a : α) (M : Store) (f : α → Store → Res β) : (Res.ok a M).bind f = f a M := id rfl
@[simp] theorem bind_err {α β : Type} (c : Nat) (fs : List D) (M : Store) (f : α → Store → Res β) : (Res.err c fs M : Res α).bind f = .err c fs M := id rfl
@[simp] theorem bind_stuck {α β : Type} (f : α → Store → Res β) : (Res.stuck : Res α).bind f = .stuck := id rfl

/-- within a comprehension nothing may be raised -/
def Res.noerr {α : Type} : Res α → Res α
  | .err _ _ _ => .stuck
  | r => r
@[simp] theorem noerr_ok {α : Type} (a : α) (M : Store) : (Res.ok a M).noerr = .ok a M := id rfl
@[simp] theorem noerr_err {α : Type} (c : Nat) (fs : List D) (M : Store) : (Res.err c fs M : Res α).noerr = .stuck := id rfl
@[simp] theorem noerr_stuck {α : Type} : (Res.stuck : Res α).noerr = .stuck := id rfl

inductive Bop where
  | add | sub | mul | fdiv | mod | pow | band | bor | bxor | shl | shr
  deriving DecidableEq
inductive Cop where
  | lt | le | gt | ge | eq | ne | inn | nin
  deriving DecidableEq

/-- the items of a list, plain or in the store -/
def listOf (M : Store) : D → Option (List D)
  | .lst xs => some xs
  | .ptr n => match M[n]? with
    | some (.lst xs) => some xs
    | _ => none
  | _ => none
/-- .. of a list, a tuple, the script -/
def seqOf (M : Store) : D → Option (List D)
  | .lst xs => some xs
  | .tup xs => some xs
  | .scr ns => some (ns.map D.int)
  | .ptr n => match M[n]? with
    | some (.lst xs) => some xs
    | _ => none
  | _ => none
def intOf : D → Option Int
  | .int i => some i
  | _ => none
def intsOf : List D → Option (List Int)
  | [] => some []
  | .int i :: r => (intsOf r).map (i :: ·)
  | _ :: _ => none
@[simp] theorem intsOf_nil : intsOf [] = some [] := id rfl
@[simp] theorem intsOf_cons (i : Int) (r : List D) : intsOf (.int i :: r) = (intsOf r).map (i :: ·) := id rfl
@[simp] theorem intsOf_map (ns : List Int) : intsOf (ns.map D.int) = some ns := by
  induction ns with
  | nil => rfl
  | cons n r ih => rw [List.map_cons, intsOf_cons, ih]; rfl

/-- small enough and without store places, to be compared -/
def okd : Nat → D → Bool
  | _, .non => true
  | _, .bl _ => true
  | _, .int _ => true
  | _, .str x => PySem.PyData.strOk x
  | 0, .tup _ => false
  | 0, .lst _ => false
  | k + 1, .tup xs => xs.all (okd k)
  | k + 1, .lst xs => xs.all (okd k)
  | _, .scr _ => false
  | _, .ptr _ => false
mutual
def eqd : D → D → Bool
  | .non, .non => true
  | .bl a, .bl b => a == b
  | .bl a, .int j => (if a then 1 else 0) == j
  | .int i, .bl b => i == (if b then 1 else 0)
  | .int i, .int j => i == j
  | .str x, .str y => x == y
  | .lst xs, .lst ys => eqds xs ys
  | .tup xs, .tup ys => eqds xs ys
  | _, _ => false
def eqds : List D → List D → Bool
  | [], [] => true
  | x :: xs, y :: ys => eqd x y && eqds xs ys
  | _, _ => false
end
/-- a list of the store is compared by its items -/
def top (M : Store) : D → D
  | .ptr n => match M[n]? with
    | some (.lst xs) => .lst xs
    | _ => .ptr n
  | d => d
/-- flat things, for 'in' -/
def flatd : D → Bool
  | .non => true
  | .bl _ => true
  | .int _ => true
  | .str _ => true
  | _ => false
def flateq : D → D → Bool
  | .non, .non => true
  | .bl a, .bl b => a == b
  | .bl a, .int b => (if a then 1 else 0) == b
  | .int a, .bl b => a == (if b then 1 else 0)
  | .int a, .int b => a == b
  | .str a, .str b => a == b
  | _, _ => false

def big : Nat := PySem.sizeLine
def isKey1 : D → Bool
  | .int _ => true
  | .str _ => true
  | _ => false
def isKey : Bool → D → Bool
  | false, d => isKey1 d
  | true, .tup ks => ks.all isKey1
  | true, _ => false
def dget (kvs : List (D × D)) (k : D) : Option D := (kvs.find? fun p => eqd p.1 k).map (·.2)
def dput (kvs : List (D × D)) (k v : D) : List (D × D) := if kvs.any fun p => eqd p.1 k then kvs.map fun p => if eqd p.1 k then (p.1, v) else p else kvs ++ [(k, v)]
/-- a dict of the store -/
def dicOf (M : Store) : D → Option (Bool × List (D × D))
  | .ptr n => match M[n]? with
    | some (.dic tk kvs) => some (tk, kvs)
    | some (.fdic tk kvs) => some (tk, kvs)
    | _ => none
  | _ => none

def binop (o : Bop) (x y : D) (M : Store) : Res D :=
  match o, x, y with
  | .add, .int i, .int j => .ok (.int (i + j)) M
  | .sub, .int i, .int j => .ok (.int (i - j)) M
  | .mul, .int i, .int j => if (-18446744073709551616 < i ∧ i < 18446744073709551616) ∨ (-18446744073709551616 < j ∧ j < 18446744073709551616) then .ok (.int (i * j)) M else .stuck
  | .fdiv, .int i, .int j => if 0 < j ∧ j < 1073741824 then .ok (.int (i / j)) M else .stuck
  | .mod, .int i, .int j => if 0 < j then .ok (.int (i % j)) M else .stuck
  | .pow, .int i, .int j => if 0 ≤ j ∧ j ≤ 1000000 ∧ i.natAbs < 18446744073709551616 then .ok (.int (i ^ j.toNat)) M else .stuck
  | .shl, .int i, .int j => if 0 ≤ j ∧ j ≤ 1000000 ∧ i.natAbs < 18446744073709551616 then .ok (.int (i * 2 ^ j.toNat)) M else .stuck
  | .shr, .int i, .int j => if 0 ≤ j then .ok (.int (i / 2 ^ j.toNat)) M else .stuck
  | .band, .int i, .int j => .ok (.int (PySem.Builtin.bitAnd i j)) M
  | .bor, .int i, .int j => .ok (.int (PySem.Builtin.bitOr i j)) M
  | .bxor, .int i, .int j => .ok (.int (PySem.Builtin.bitXor i j)) M
  | .add, .str i, .str j => if i.length + j.length ≤ big then .ok (.str (i ++ j)) M else .stuck
  | .add, .tup xs, .tup ys => if xs.length + ys.length ≤ big then .ok (.tup (xs ++ ys)) M else .stuck
  | .add, x, y => match listOf M x, listOf M y with
    | some xs, some ys => if xs.length + ys.length ≤ big then .ok (.lst (xs ++ ys)) M else .stuck
    | _, _ => .stuck
  | .mul, x, .int k => match listOf M x with
    | some xs => if -16777216 ≤ k ∧ k ≤ 16777216 ∧ xs.length * k.toNat ≤ big then .ok (.lst (List.replicate k.toNat xs).flatten) M else .stuck
    | none => .stuck
  | _, _, _ => .stuck

def cmpop (o : Cop) (x y : D) (M : Store) : Res D :=
  match o, x, y with
  | .lt, .int i, .int j => .ok (.bl (decide (i < j))) M
  | .le, .int i, .int j => .ok (.bl (decide (i ≤ j))) M
  | .gt, .int i, .int j => .ok (.bl (decide (j < i))) M
  | .ge, .int i, .int j => .ok (.bl (decide (j ≤ i))) M
  | .eq, x, y => if okd 12 (top M x) ∧ okd 12 (top M y) then .ok (.bl (eqd (top M x) (top M y))) M else .stuck
  | .ne, x, y => if okd 12 (top M x) ∧ okd 12 (top M y) then .ok (.bl (!eqd (top M x) (top M y))) M else .stuck
  | .inn, x, y => match seqOf M y with
    | some ys => if flatd x ∧ ys.all flatd then .ok (.bl (ys.any fun y => flateq y x)) M else .stuck
    | none => match dicOf M y with
      | some kv => if isKey kv.1 x then .ok (.bl (dget kv.2 x).isSome) M else .stuck
      | none => .stuck
  | .nin, x, y => match seqOf M y with
    | some ys => if flatd x ∧ ys.all flatd then .ok (.bl (!(ys.any fun y => flateq y x))) M else .stuck
    | none => match dicOf M y with
      | some kv => if isKey kv.1 x then .ok (.bl (!(dget kv.2 x).isSome)) M else .stuck
      | none => .stuck
  | _, _, _ => .stuck

/-- the truth of a value -/
def dicN (M : Store) : D → Option (Bool × List (D × D))
  | .ptr n => match M[n]? with
    | some (.dic tk kvs) => some (tk, kvs)
    | _ => none
  | _ => none
def truth (M : Store) : D → Option Bool
  | .non => some false
  | .bl b => some b
  | .int i => some (i != 0)
  | .lst xs => some (!xs.isEmpty)
  | .tup xs => some (!xs.isEmpty)
  | .ptr n => match M[n]? with
    | some (.lst xs) => some (!xs.isEmpty)
    | _ => none
  | _ => none

def ixd (M : Store) (x i : D) : Res D :=
  match dicOf M x with
  | some kv => if isKey kv.1 i then match dget kv.2 i with
      | some v => .ok v M
      | none => .stuck
    else .stuck
  | none => match i with
  | .int i => match seqOf M x with
    | some xs => match L2.atI xs i with
      | some v => .ok v M
      | none => .stuck
    | none => .stuck
  | _ => .stuck
def cutd (xs : List D) (lo hi : Option Int) : List D := (xs.drop (HT.sIx xs.length 0 lo)).take (HT.sIx xs.length xs.length hi - HT.sIx xs.length 0 lo)
def sld (M : Store) (x : D) (lo hi : Option Int) : Res D :=
  match x with
  | .tup xs => .ok (.tup (cutd xs lo hi)) M
  | .scr ns => .ok (.lst (cutd (ns.map D.int) lo hi)) M
  | x => match listOf M x with
    | some xs => .ok (.lst (cutd xs lo hi)) M
    | none => .stuck

inductive Bi where
  | len | sum | max1 | min1 | max2 | min2 | abs | int | sorted (hot : Bool) | list (hot : Bool) | tuple | any | all
  deriving DecidableEq
/-- the greatest, the least -/
def maxOf (ns : List Int) : Option Int := ns.max?
def minOf (ns : List Int) : Option Int := ns.min?
def sortI (ns : List Int) : List Int := ns.mergeSort (fun a b => decide (a ≤ b))
/-- pairs of ints -/
def pairsOf : List D → Option (List (Int × Int))
  | [] => some []
  | .tup [.int i, .int j] :: r => (pairsOf r).map ((i, j) :: ·)
  | _ :: _ => none
def pairD (p : Int × Int) : D := .tup [.int p.1, .int p.2]
def sortP (ps : List (Int × Int)) : List (Int × Int) := ps.mergeSort (fun a b => decide (a.1 < b.1) || (decide (a.1 = b.1) && decide (a.2 ≤ b.2)))
def boolsOf : List D → Option (List Bool)
  | [] => some []
  | .bl i :: r => (boolsOf r).map (i :: ·)
  | _ :: _ => none
/-- a new list: plain, or at a new place -/
def newL (hot : Bool) (xs : List D) (M : Store) : Res D := if hot then .ok (.ptr M.length) (M ++ [.lst xs]) else .ok (.lst xs) M
def birun (f : Bi) (as : List D) (M : Store) : Res D :=
  match f, as with
  | .len, [x] => match seqOf M x with
    | some xs => .ok (.int xs.length) M
    | none => match dicN M x with
      | some kv => .ok (.int kv.2.length) M
      | none => .stuck
  | .sum, [x] => match (seqOf M x).bind intsOf with
    | some ns => .ok (.int ns.sum) M
    | none => .stuck
  | .max1, [x] => match ((seqOf M x).bind intsOf).bind maxOf with
    | some m => .ok (.int m) M
    | none => .stuck
  | .min1, [x] => match ((seqOf M x).bind intsOf).bind minOf with
    | some m => .ok (.int m) M
    | none => .stuck
  | .max2, [.int i, .int j] => .ok (.int (if j > i then j else i)) M
  | .min2, [.int i, .int j] => .ok (.int (if j < i then j else i)) M
  | .abs, [.int i] => .ok (.int (if i < 0 then -i else i)) M
  | .int, [.int i] => .ok (.int i) M
  | .sorted hot, [x] => match (listOf M x).bind intsOf with
    | some ns => newL hot ((sortI ns).map D.int) M
    | none => match (listOf M x).bind pairsOf with
      | some ps => newL hot ((sortP ps).map pairD) M
      | none => .stuck
  | .list hot, [x] => match seqOf M x with
    | some xs => newL hot xs M
    | none => match dicN M x with
      | some kv => newL hot (kv.2.map (·.1)) M
      | none => .stuck
  | .tuple, [x] => match seqOf M x with
    | some xs => .ok (.tup xs) M
    | none => .stuck
  | .any, [x] => match (listOf M x).bind boolsOf with
    | some bs => .ok (.bl (bs.any id)) M
    | none => .stuck
  | .all, [x] => match (listOf M x).bind boolsOf with
    | some bs => .ok (.bl (bs.all id)) M
    | none => .stuck
  | _, _ => .stuck

inductive Bm where
  | append | popAt | pop | index
  deriving DecidableEq
def bmrun (f : Bm) (o : D) (as : List D) (M : Store) : Res D :=
  match f, o, as with
  | .append, .ptr n, [y] => match M[n]? with
    | some (.lst xs) => if xs.length < big then .ok .non (M.set n (.lst (xs ++ [y]))) else .stuck
    | _ => .stuck
  | .popAt, .ptr n, [.int i] => match M[n]? with
    | some (.lst xs) => if 0 ≤ i ∧ i ≤ 16777216 ∧ i < xs.length then match xs[i.toNat]? with
        | some y => .ok y (M.set n (.lst (xs.eraseIdx i.toNat)))
        | none => .stuck
      else .stuck
    | _ => .stuck
  | .pop, .ptr n, [] => match M[n]? with
    | some (.lst xs) => match xs[xs.length - 1]? with
      | some y => .ok y (M.set n (.lst xs.dropLast))
      | none => .stuck
    | _ => .stuck
  | .index, x, [y] => match listOf M x with
    | some xs => if flatd y ∧ xs.all flatd then match xs.findIdx? fun z => flateq z y with
        | some j => .ok (.int j) M
        | none => .stuck
      else .stuck
    | none => .stuck
  | _, _, _ => .stuck

/-- the types of isinstance -/
inductive Ty where
  | int | bool | str | tuple | list
  deriving DecidableEq
def isTy (M : Store) (t : Ty) : D → Option Bool
  | .non => some false
  | .bl _ => some (match t with | .bool => true | .int => true | _ => false)
  | .int _ => some (match t with | .int => true | _ => false)
  | .str _ => some (match t with | .str => true | _ => false)
  | .tup _ => some (match t with | .tuple => true | _ => false)
  | .lst _ => some (match t with | .list => true | _ => false)
  | .scr _ => some (match t with | .list => true | _ => false)
  | .ptr n => match M[n]? with
    | some (.lst _) => some (match t with | .list => true | _ => false)
    | _ => none

inductive Gp where
  | n (i : Nat)
  | t (gs : List Nat)
mutual
inductive Xp where
  | non | bl (b : Bool) | int (i : Int) | str (x : Str)
  | v (i : Nat)
  | bin (o : Bop) (a b : Xp)
  | neg (a : Xp)
  | notV (a : Xp)
  | cmp (o : Cop) (a b : Xp)
  | chn (o p : Cop) (a b c : Xp)
  | isN (a : Xp)
  | notN (a : Xp)
  | andV (as : Xps)
  | orV (as : Xps)
  | ife (t : Tp) (a b : Xp)
  | call (f : Nat) (as : Xps)
  | mk (c : Nat) (as : Xps)
  | meth (o : Xp) (m : Nat) (as : Xps)
  | bi (f : Bi) (as : Xps)
  | bm (f : Bm) (o : Xp) (as : Xps)
  | isi (a : Xp) (t : Ty)
  | fld (o : Xp) (f : Nat)
  | ix (o i : Xp)
  | sl (o : Xp) (lo hi : Op)
  | tup (as : Xps)
  | lst (hot : Bool) (as : Xps)
  | lc (hot : Bool) (g : Gp) (it : Ip) (t : Tps) (e : Xp)
  | frz (e : Xp)
  | lrg (hot : Bool) (a : Xp)
  | lrg2 (hot : Bool) (a b : Xp)
  | trg (a : Xp)
  | trg2 (a b : Xp)
  | dnew (tk : Bool)
inductive Xps where
  | nil | cons (e : Xp) (r : Xps)
inductive Op where
  | no | so (e : Xp)
inductive Tp where
  | val (e : Xp)
  | cmp (o : Cop) (a b : Xp)
  | chn (o p : Cop) (a b c : Xp)
  | isN (a : Xp)
  | notN (a : Xp)
  | tnot (t : Tp)
  | tand (ts : Tps)
  | tor (ts : Tps)
inductive Tps where
  | nil | cons (t : Tp) (r : Tps)
inductive Ip where
  | val (e : Xp)
  | rng1 (a : Xp)
  | rng2 (a b : Xp)
end

mutual
inductive Sm where
  | asg (g : Gp) (e : Xp)
  | asgF (o : Xp) (f : Nat) (e : Xp)
  | asgI (o i : Xp) (e : Xp)
  | aug (i : Nat) (o : Bop) (e : Xp)
  | augI (o i : Xp) (op : Bop) (e : Xp)
  | ex (e : Xp)
  | ite (t : Tp) (a b : Sms)
  | fo (g : Gp) (it : Ip) (b : Sms)
  | fod (g : Gp) (i : Nat) (b : Sms)
  | whl (t : Tp) (b : Sms)
  | ret (e : Xp)
  | retN
  | rais (c : Nat) (as : Xps)
  | brk | ctn | pass
  | par (i j : Nat) (a b : Xp)
  | nev
  | tr (b : Sms) (hs : List (Nat × Nat × Hx))
inductive Sms where
  | nil | cons (s : Sm) (r : Sms)
/-- what an except suite returns -/
inductive Hx where
  | non | bl (b : Bool) | int (i : Int) | str (x : Str) | v (i : Nat) | fld (f : Nat) | tup (as : Hxs)
inductive Hxs where
  | nil | cons (e : Hx) (r : Hxs)
end

/-- a def: its name (and qualified name), parameters, all names by slot, its body; trunc: what it laid is let go behind it -/
structure Fn where
  name : Str
  qual : Str
  glob : Bool
  np : Nat
  names : List Str
  body : Sms
  trunc : Bool
/-- a class: its name, its __init__, its methods by name -/
structure Cl where
  name : Str
  init : Nat
  flds : List Nat
  meths : List (Nat × Nat)
/-- an exception class: its name, its fields, the classes of the text above it (itself too) -/
structure Er where
  name : Str
  flds : List Nat
  ups : List Nat
structure Pg where
  fns : List Fn
  cls : List Cl
  ers : List Er
  nms : List Str

section
variable (P : Pg) (w : Nat) (cf : Nat → List D → Store → Res D)

/-- whether a class has this field -/
def hasF (c f : Nat) : Bool := match P.cls[c]? with
  | some k => k.flds.contains f
  | none => false
def setF (f : Nat) (v : D) : List (Nat × D) → List (Nat × D)
  | [] => [(f, v)]
  | (g, x) :: r => if g = f then (g, v) :: r else (g, x) :: setF f v r
def getF (f : Nat) : List (Nat × D) → Option D
  | [] => none
  | (g, x) :: r => if g = f then some x else getF f r
def findM (m : Nat) : List (Nat × Nat) → Option Nat
  | [] => none
  | (g, x) :: r => if g = m then some x else findM m r

def gslots : Gp → List Nat
  | .n i => [i]
  | .t is => is
/-- a comprehension's own names are unknown ahead of its target -/
def wipeR (ρ : Rho) : List Nat → Rho
  | [] => ρ
  | i :: is => (wipeR ρ is).set i none
def bindG (g : Gp) (d : D) (ρ : Rho) : Option Rho :=
  match g with
  | .n i => some (ρ.set i (some d))
  | .t gs => match d with
    | .tup xs => if xs.length = gs.length then some ((gs.zip xs).foldl (fun ρ p => ρ.set p.1 (some p.2)) ρ) else none
    | .lst xs => if xs.length = gs.length then some ((gs.zip xs).foldl (fun ρ p => ρ.set p.1 (some p.2)) ρ) else none
    | _ => none

/-- a comprehension's walk over items that stand still; acc: what is made so far -/
def lcA (f : D → Store → Res (Option D)) : List D → List D → Store → Res (List D)
  | [], acc, M => .ok acc M
  | x :: xs, acc, M => (f x M).bind fun o M1 => match o with
    | some y => if acc.length < big then lcA f xs (acc ++ [y]) M1 else .stuck
    | none => lcA f xs acc M1
/-- .. over a list of the store, as it stands at each turn -/
def lcH (n : Nat) (f : D → Store → Res (Option D)) : Nat → Nat → List D → Store → Res (List D)
  | 0, _, _, _ => .stuck
  | k + 1, i, acc, M => match M[n]? with
    | some (.lst xs) => match xs[i]? with
      | none => .ok acc M
      | some x => (f x M).bind fun o M1 => match o with
        | some y => if acc.length < big then lcH n f k (i + 1) (acc ++ [y]) M1 else .stuck
        | none => lcH n f k (i + 1) acc M1
    | _ => .stuck

/-- what is walked: items that stand still, or a list of the store -/
inductive Wk where
  | items (xs : List D)
  | hot (n : Nat)
def walkOf (M : Store) (d : D) : Option Wk :=
  match d with
  | .lst xs => some (.items xs)
  | .tup xs => some (.items xs)
  | .scr ns => some (.items (ns.map D.int))
  | .ptr n => match M[n]? with
    | some (.lst _) => some (.hot n)
    | _ => none
  | _ => none
def rngOf (lo hi : Int) : List D := (List.range (hi - lo).toNat).map fun (i : Nat) => D.int (lo + (i : Int))
def rngOk (lo hi : Int) : Bool := decide (-16777216 ≤ lo) && decide (lo ≤ 16777216) && decide (-16777216 ≤ hi) && decide (hi ≤ 16777216)

mutual
def runE (ρ : Rho) : Xp → Store → Res D
  | .non, M => .ok .non M
  | .bl b, M => .ok (.bl b) M
  | .int i, M => .ok (.int i) M
  | .str x, M => .ok (.str x) M
  | .v i, M => match ρ[i]? with
    | some (some d) => .ok d M
    | _ => .stuck
  | .bin o a b, M => (runE ρ a M).bind fun x M1 => (runE ρ b M1).bind fun y M2 => binop o x y M2
  | .neg a, M => (runE ρ a M).bind fun x M1 => match x with
    | .int i => .ok (.int (-i)) M1
    | _ => .stuck
  | .notV a, M => (runE ρ a M).bind fun x M1 => match x with
    | .bl b => .ok (.bl (!b)) M1
    | _ => .stuck
  | .cmp o a b, M => (runE ρ a M).bind fun x M1 => (runE ρ b M1).bind fun y M2 => cmpop o x y M2
  | .chn o p a b c, M => (runE ρ a M).bind fun x M1 => (runE ρ b M1).bind fun y M2 => (cmpop o x y M2).bind fun z M3 => match z with
    | .bl true => (runE ρ c M3).bind fun u M4 => cmpop p y u M4
    | .bl false => .ok (.bl false) M3
    | _ => .stuck
  | .isN a, M => (runE ρ a M).bind fun x M1 => .ok (.bl (match x with | .non => true | _ => false)) M1
  | .notN a, M => (runE ρ a M).bind fun x M1 => .ok (.bl (match x with | .non => false | _ => true)) M1
  | .andV as, M => runAnd ρ as M
  | .orV as, M => runOr ρ as M
  | .ife t a b, M => (runT ρ t M).bind fun k M1 => match k with
    | true => runE ρ a M1
    | false => runE ρ b M1
  | .call f as, M => (runA ρ as M).bind fun xs M1 => cf f xs M1
  | .mk c as, M => (runA ρ as M).bind fun xs M1 => match P.cls[c]? with
    | some k => (cf k.init (.ptr M1.length :: xs) (M1 ++ [.ins c []])).bind fun r M2 => match r with
      | .non => .ok (.ptr M1.length) M2
      | _ => .stuck
    | none => .stuck
  | .meth o m as, M => (runE ρ o M).bind fun x M1 => match x with
    | .ptr n => match M1[n]? with
      | some (.ins c fs) => match (P.cls[c]?).bind fun k => findM m k.meths with
        | some g => match getF m fs with
          | none => (runA ρ as M1).bind fun xs M2 => cf g (.ptr n :: xs) M2
          | some _ => .stuck
        | none => .stuck
      | _ => .stuck
    | _ => .stuck
  | .bi f as, M => (runA ρ as M).bind fun xs M1 => birun f xs M1
  | .bm f o as, M => (runE ρ o M).bind fun x M1 => match (listOf M1 x).isSome with
    | true => (runA ρ as M1).bind fun xs M2 => bmrun f x xs M2
    | false => .stuck
  | .isi a t, M => (runE ρ a M).bind fun x M1 => match isTy M1 t x with
    | some b => .ok (.bl b) M1
    | none => .stuck
  | .fld o f, M => (runE ρ o M).bind fun x M1 => match x with
    | .ptr n => match M1[n]? with
      | some (.ins c fs) => if hasF P c f then match getF f fs with
          | some v => .ok v M1
          | none => .stuck
        else .stuck
      | _ => .stuck
    | _ => .stuck
  | .ix o i, M => (runE ρ o M).bind fun x M1 => (runE ρ i M1).bind fun y M2 => ixd M2 x y
  | .sl o lo hi, M => (runE ρ o M).bind fun x M1 => (runO ρ lo M1).bind fun l M2 => (runO ρ hi M2).bind fun h M3 => sld M3 x l h
  | .tup as, M => (runA ρ as M).bind fun xs M1 => if xs.length ≤ big then .ok (.tup xs) M1 else .stuck
  | .lst hot as, M => (runA ρ as M).bind fun xs M1 => if xs.length ≤ big then newL hot xs M1 else .stuck
  | .lc hot g it t e, M => (runI ρ it M).bind fun k M1 =>
    (match k with
    | .items xs => lcA (fun x M => match bindG g x (wipeR ρ (gslots g)) with
      | some ρ' => ((runTs ρ' t M).noerr).bind fun b M2 => match b with
        | true => ((runE ρ' e M2).noerr).bind fun y M3 => .ok (some y) M3
        | false => .ok none M2
      | none => .stuck) xs [] M1
    | .hot n => lcH n (fun x M => match bindG g x (wipeR ρ (gslots g)) with
      | some ρ' => ((runTs ρ' t M).noerr).bind fun b M2 => match b with
        | true => ((runE ρ' e M2).noerr).bind fun y M3 => .ok (some y) M3
        | false => .ok none M2
      | none => .stuck) w 0 [] M1
).bind fun ys M2 => newL hot ys M2
  | .frz e, M => (runE ρ e M).bind fun x M1 => match x with
    | .ptr n => match M1[n]? with
      | some (.lst xs) => .ok (.lst xs) (M1.set n .dead)
      | _ => .stuck
    | d => .ok d M1
  | .lrg hot a, M => (runE ρ a M).bind fun x M1 => match x with
    | .int i => if -16777216 ≤ i ∧ i ≤ 16777216 then newL hot (rngOf 0 i) M1 else .stuck
    | _ => .stuck
  | .lrg2 hot a b, M => (runE ρ a M).bind fun x M1 => (runE ρ b M1).bind fun y M2 => match x, y with
    | .int i, .int j => if rngOk i j ∧ j - i ≤ 16777216 then newL hot (rngOf i j) M2 else .stuck
    | _, _ => .stuck
  | .trg a, M => (runE ρ a M).bind fun x M1 => match x with
    | .int i => if -16777216 ≤ i ∧ i ≤ 16777216 then .ok (.tup (rngOf 0 i)) M1 else .stuck
    | _ => .stuck
  | .trg2 a b, M => (runE ρ a M).bind fun x M1 => (runE ρ b M1).bind fun y M2 => match x, y with
    | .int i, .int j => if rngOk i j ∧ j - i ≤ 16777216 then .ok (.tup (rngOf i j)) M2 else .stuck
    | _, _ => .stuck
  | .dnew tk, M => .ok (.ptr M.length) (M ++ [.dic tk []])
def runA (ρ : Rho) : Xps → Store → Res (List D)
  | .nil, M => .ok [] M
  | .cons e r, M => (runE ρ e M).bind fun x M1 => (runA ρ r M1).bind fun xs M2 => .ok (x :: xs) M2
def runO (ρ : Rho) : Op → Store → Res (Option Int)
  | .no, M => .ok none M
  | .so e, M => (runE ρ e M).bind fun x M1 => match x with
    | .int i => .ok (some i) M1
    | _ => .stuck
def runAnd (ρ : Rho) : Xps → Store → Res D
  | .nil, _ => .stuck
  | .cons e .nil, M => runE ρ e M
  | .cons e (.cons e2 r), M => (runE ρ e M).bind fun x M1 => match x with
    | .bl true => runAnd ρ (.cons e2 r) M1
    | .bl false => .ok (.bl false) M1
    | _ => .stuck
def runOr (ρ : Rho) : Xps → Store → Res D
  | .nil, _ => .stuck
  | .cons e .nil, M => runE ρ e M
  | .cons e (.cons e2 r), M => (runE ρ e M).bind fun x M1 => match x with
    | .bl false => runOr ρ (.cons e2 r) M1
    | .bl true => .ok (.bl true) M1
    | _ => .stuck
def runT (ρ : Rho) : Tp → Store → Res Bool
  | .val e, M => (runE ρ e M).bind fun x M1 => match truth M1 x with
    | some b => .ok b M1
    | none => .stuck
  | .cmp o a b, M => (runE ρ a M).bind fun x M1 => (runE ρ b M1).bind fun y M2 => (cmpop o x y M2).bind fun z M3 => match z with
    | .bl k => .ok k M3
    | _ => .stuck
  | .chn o p a b c, M => (runE ρ a M).bind fun x M1 => (runE ρ b M1).bind fun y M2 => (cmpop o x y M2).bind fun z M3 => match z with
    | .bl true => (runE ρ c M3).bind fun u M4 => (cmpop p y u M4).bind fun z M5 => match z with
      | .bl k => .ok k M5
      | _ => .stuck
    | .bl false => .ok false M3
    | _ => .stuck
  | .isN a, M => (runE ρ a M).bind fun x M1 => .ok (match x with | .non => true | _ => false) M1
  | .notN a, M => (runE ρ a M).bind fun x M1 => .ok (match x with | .non => false | _ => true) M1
  | .tnot t, M => (runT ρ t M).bind fun k M1 => .ok (!k) M1
  | .tand ts, M => runTs ρ ts M
  | .tor ts, M => runTo ρ ts M
def runTs (ρ : Rho) : Tps → Store → Res Bool
  | .nil, M => .ok true M
  | .cons t .nil, M => runT ρ t M
  | .cons t (.cons t2 r), M => (runT ρ t M).bind fun k M1 => match k with
    | true => runTs ρ (.cons t2 r) M1
    | false => .ok false M1
def runTo (ρ : Rho) : Tps → Store → Res Bool
  | .nil, M => .ok false M
  | .cons t .nil, M => runT ρ t M
  | .cons t (.cons t2 r), M => (runT ρ t M).bind fun k M1 => match k with
    | true => .ok true M1
    | false => runTo ρ (.cons t2 r) M1
def runI (ρ : Rho) : Ip → Store → Res Wk
  | .val e, M => (runE ρ e M).bind fun x M1 => match walkOf M1 x with
    | some k => .ok k M1
    | none => .stuck
  | .rng1 a, M => (runE ρ a M).bind fun x M1 => match x with
    | .int i => if rngOk 0 i then .ok (.items (rngOf 0 i)) M1 else .stuck
    | _ => .stuck
  | .rng2 a b, M => (runE ρ a M).bind fun x M1 => (runE ρ b M1).bind fun y M2 => match x, y with
    | .int i, .int j => if rngOk i j then .ok (.items (rngOf i j)) M2 else .stuck
    | _, _ => .stuck
end

inductive Fl where
  | nx (ρ : Rho)
  | rt (d : D)
  | bk (ρ : Rho)
  | ct (ρ : Rho)
  | er (c : Nat) (fs : List D) (ρ : Rho)
/-- a statement's end: how it goes on, with the store; none: stuck -/
abbrev Out := Option (Fl × Store)

/-- an expression within a statement -/
def withE {α : Type} (r : Res α) (ρ : Rho) (f : α → Store → Out) : Out :=
  match r with
  | .ok a M => f a M
  | .err c fs M => some (.er c fs ρ, M)
  | .stuck => none
@[simp] theorem withE_ok {α : Type} (a : α) (M : Store) (ρ : Rho) (f : α → Store → Out) : withE (.ok a M) ρ f = f a M := id rfl
@[simp] theorem withE_err {α : Type} (c : Nat) (fs : List D) (M : Store) (ρ : Rho) (f : α → Store → Out) : withE (.err c fs M : Res α) ρ f = some (.er c fs ρ, M) := id rfl
@[simp] theorem withE_stuck {α : Type} (ρ : Rho) (f : α → Store → Out) : withE (.stuck : Res α) ρ f = none := id rfl
/-- behind a statement that goes on -/
def andThen (o : Out) (f : Rho → Store → Out) : Out :=
  match o with
  | some (.nx ρ, M) => f ρ M
  | o => o
@[simp] theorem andThen_nx (ρ : Rho) (M : Store) (f : Rho → Store → Out) : andThen (some (.nx ρ, M)) f = f ρ M := id rfl
@[simp] theorem andThen_rt (d : D) (M : Store) (f : Rho → Store → Out) : andThen (some (.rt d, M)) f = some (.rt d, M) := id rfl
@[simp] theorem andThen_bk (ρ : Rho) (M : Store) (f : Rho → Store → Out) : andThen (some (.bk ρ, M)) f = some (.bk ρ, M) := id rfl
@[simp] theorem andThen_ct (ρ : Rho) (M : Store) (f : Rho → Store → Out) : andThen (some (.ct ρ, M)) f = some (.ct ρ, M) := id rfl
@[simp] theorem andThen_er (c : Nat) (fs : List D) (ρ : Rho) (M : Store) (f : Rho → Store → Out) : andThen (some (.er c fs ρ, M)) f = some (.er c fs ρ, M) := id rfl
@[simp] theorem andThen_none (f : Rho → Store → Out) : andThen none f = none := id rfl
/-- behind a loop's turn -/
def turn (o : Out) (go : Rho → Store → Out) : Out :=
  match o with
  | some (.nx ρ, M) => go ρ M
  | some (.ct ρ, M) => go ρ M
  | some (.bk ρ, M) => some (.nx ρ, M)
  | o => o
@[simp] theorem turn_nx (ρ : Rho) (M : Store) (f : Rho → Store → Out) : turn (some (.nx ρ, M)) f = f ρ M := id rfl
@[simp] theorem turn_rt (d : D) (M : Store) (f : Rho → Store → Out) : turn (some (.rt d, M)) f = some (.rt d, M) := id rfl
@[simp] theorem turn_bk (ρ : Rho) (M : Store) (f : Rho → Store → Out) : turn (some (.bk ρ, M)) f = some (.nx ρ, M) := id rfl
@[simp] theorem turn_ct (ρ : Rho) (M : Store) (f : Rho → Store → Out) : turn (some (.ct ρ, M)) f = f ρ M := id rfl
@[simp] theorem turn_er (c : Nat) (fs : List D) (ρ : Rho) (M : Store) (f : Rho → Store → Out) : turn (some (.er c fs ρ, M)) f = some (.er c fs ρ, M) := id rfl
@[simp] theorem turn_none (f : Rho → Store → Out) : turn none f = none := id rfl

def forL (f : D → Rho → Store → Out) : List D → Rho → Store → Out
  | [], ρ, M => some (.nx ρ, M)
  | x :: xs, ρ, M => turn (f x ρ M) fun ρ' M' => forL f xs ρ' M'
def forH (n : Nat) (f : D → Rho → Store → Out) : Nat → Nat → Rho → Store → Out
  | 0, _, _, _ => none
  | k + 1, i, ρ, M => match M[n]? with
    | some (.lst xs) => match xs[i]? with
      | none => some (.nx ρ, M)
      | some x => turn (f x ρ M) fun ρ' M' => forH n f k (i + 1) ρ' M'
    | _ => none
def whileL (c : Rho → Store → Res Bool) (f : Rho → Store → Out) : Nat → Rho → Store → Out
  | 0, _, _ => none
  | k + 1, ρ, M => withE (c ρ M) ρ fun b M1 => match b with
    | true => turn (f ρ M1) fun ρ' M' => whileL c f k ρ' M'
    | false => some (.nx ρ, M1)

/-- behind a loop over a dict: it may be changed again -/
def unlk (n : Nat) (o : Out) : Out :=
  match o with
  | some (.nx ρ, M) => match M[n]? with
    | some (.fdic tk kvs) => some (.nx ρ, M.set n (.dic tk kvs))
    | _ => none
  | some (.rt d, M) => match M[n]? with
    | some (.fdic tk kvs) => some (.rt d, M.set n (.dic tk kvs))
    | _ => none
  | _ => none

def runH (ρ : Rho) (fl : List Nat) (fs : List D) : Hx → Option D
  | .non => some .non
  | .bl b => some (.bl b)
  | .int i => some (.int i)
  | .str x => some (.str x)
  | .v i => match ρ[i]? with
    | some (some d) => some d
    | _ => none
  | .fld f => getF f (fl.zip fs)
  | .tup as => (runHs ρ fl fs as).bind fun xs => if xs.length ≤ big then some (.tup xs) else none
where runHs (ρ : Rho) (fl : List Nat) (fs : List D) : Hxs → Option (List D)
  | .nil => some []
  | .cons e r => (runH ρ fl fs e).bind fun x => (runHs ρ fl fs r).map (x :: ·)

def handle (c : Nat) (fs : List D) (ρ : Rho) (M : Store) : List (Nat × Nat × Hx) → Out
  | [] => some (.er c fs ρ, M)
  | (k, i, h) :: r => match P.ers[c]? with
    | some e => if e.ups.contains k then (if i < ρ.length then match runH (ρ.set i none) e.flds fs h with
        | some d => some (.rt d, M)
        | none => none
      else none)
      else handle c fs ρ M r
    | none => none

mutual
def runS : Sm → Rho → Store → Out
  | .asg g e, ρ, M => withE (runE P w cf ρ e M) ρ fun d M1 => match bindG g d ρ with
    | some ρ' => some (.nx ρ', M1)
    | none => none
  | .asgF o f e, ρ, M => withE (runE P w cf ρ e M) ρ fun d M1 => withE (runE P w cf ρ o M1) ρ fun x M2 => match x with
    | .ptr n => match M2[n]? with
      | some (.ins c fs) => if hasF P c f ∧ fs.length < 900 then some (.nx ρ, M2.set n (.ins c (setF f d fs))) else none
      | _ => none
    | _ => none
  | .asgI o i e, ρ, M => withE (runE P w cf ρ e M) ρ fun d M1 => withE (runE P w cf ρ o M1) ρ fun x M2 => withE (runE P w cf ρ i M2) ρ fun y M3 => match x, y with
    | .ptr n, y => match M3[n]? with
      | some (.lst xs) => match y with
        | .int k => match L2.ixN xs.length k with
          | some j => some (.nx ρ, M3.set n (.lst (xs.set j d)))
          | none => none
        | _ => none
      | some (.dic tk kvs) => if isKey tk y ∧ kvs.length < big then some (.nx ρ, M3.set n (.dic tk (dput kvs y d))) else none
      | _ => none
    | _, _ => none
  | .aug i o e, ρ, M => match ρ[i]? with
    | some (some x) => withE (runE P w cf ρ e M) ρ fun y M1 => match x, y with
      | .int a, .int b => match o with
        | .add => some (.nx (ρ.set i (some (.int (a + b)))), M1)
        | .sub => some (.nx (ρ.set i (some (.int (a - b)))), M1)
        | _ => none
      | _, _ => none
    | _ => none
  | .augI o i op e, ρ, M => withE (runE P w cf ρ o M) ρ fun x M1 => withE (runE P w cf ρ i M1) ρ fun y M2 => match x, y with
    | .ptr n, .int k => match M2[n]? with
      | some (.lst xs) => match L2.atI xs k with
        | some (.int a) => withE (runE P w cf ρ e M2) ρ fun z M3 => match z with
          | .int b => match M3[n]? with
            | some (.lst ys) => match L2.ixN ys.length k with
              | some j => match op with
                | .add => some (.nx ρ, M3.set n (.lst (ys.set j (.int (a + b)))))
                | .sub => some (.nx ρ, M3.set n (.lst (ys.set j (.int (a - b)))))
                | _ => none
              | none => none
            | _ => none
          | _ => none
        | _ => none
      | _ => none
    | _, _ => none
  | .ex e, ρ, M => withE (runE P w cf ρ e M) ρ fun _ M1 => some (.nx ρ, M1)
  | .ite t a b, ρ, M => withE (runT P w cf ρ t M) ρ fun k M1 => match k with
    | true => runSs a ρ M1
    | false => runSs b ρ M1
  | .fo g it b, ρ, M => withE (runI P w cf ρ it M) ρ fun k M1 => match k with
    | .items xs => forL (fun x ρ M => match bindG g x ρ with
      | some ρ' => runSs b ρ' M
      | none => none) xs ρ M1
    | .hot n => forH n (fun x ρ M => match bindG g x ρ with
      | some ρ' => runSs b ρ' M
      | none => none) w 0 ρ M1
  | .fod g i b, ρ, M => match ρ[i]? with
    | some (some (.ptr n)) => match M[n]? with
      | some (.dic tk kvs) => unlk n (forL (fun x ρ M => match bindG g x ρ with
        | some ρ' => runSs b ρ' M
        | none => none) (kvs.map (·.1)) ρ (M.set n (.fdic tk kvs)))
      | _ => none
    | _ => none
  | .whl t b, ρ, M => whileL (fun ρ M => runT P w cf ρ t M) (fun ρ M => runSs b ρ M) w ρ M
  | .ret e, ρ, M => withE (runE P w cf ρ e M) ρ fun d M1 => some (.rt d, M1)
  | .retN, _, M => some (.rt .non, M)
  | .rais c as, ρ, M => withE (runA P w cf ρ as M) ρ fun xs M1 => match P.ers[c]? with
    | some e => if xs.length = e.flds.length then some (.er c xs.reverse ρ, M1) else none
    | none => none
  | .brk, ρ, M => some (.bk ρ, M)
  | .ctn, ρ, M => some (.ct ρ, M)
  | .pass, ρ, M => some (.nx ρ, M)
  | .par i j a b, ρ, M => withE (runE P w cf ρ a M) ρ fun x M1 => withE (runE P w cf ρ b M1) ρ fun y M2 => some (.nx ((ρ.set i (some x)).set j (some y)), M2)
  | .nev, _, _ => none
  | .tr b hs, ρ, M => match runSs b ρ M with
    | some (.er c fs ρ', M') => handle P c fs ρ' M' hs
    | o => o
def runSs : Sms → Rho → Store → Out
  | .nil, ρ, M => some (.nx ρ, M)
  | .cons s r, ρ, M => andThen (runS s ρ M) fun ρ' M' => runSs r ρ' M'
end
end

mutual
/-- all places are below k -/
def underD (k : Nat) : D → Bool
  | .ptr n => decide (n < k)
  | .tup xs => underDs k xs
  | .lst xs => underDs k xs
  | _ => true
def underDs (k : Nat) : List D → Bool
  | [] => true
  | x :: xs => underD k x && underDs k xs
end
def underO (k : Nat) : Ob → Bool
  | .dead => true
  | .lst xs => underDs k xs
  | .ins _ fs => fs.all fun p => underD k p.2
  | .dic _ kvs => kvs.all fun p => underD k p.1 && underD k p.2
  | .fdic _ kvs => kvs.all fun p => underD k p.1 && underD k p.2
/-- what a call has laid may be let go: nothing that stays names it -/
def Cut (tr : Bool) (M M' : Store) (d : D) : Prop := tr = true ∧ underD M.length d = true ∧ (M'.take M.length = M ∨ (M'.take M.length).all (underO M.length) = true)
open Classical in
/-- a call's end -/
noncomputable def finish (tr : Bool) (M : Store) (o : Out) : Res D :=
  match o with
  | some (.rt d, M') => .ok d (if Cut tr M M' d then M'.take M.length else M')
  | some (.nx _, M') => .ok .non (if Cut tr M M' .non then M'.take M.length else M')
  | some (.er c fs _, M') => .err c fs M'
  | _ => .stuck

noncomputable def callF (P : Pg) (w : Nat) : Nat → Nat → List D → Store → Res D
  | 0, _, _, _ => .stuck
  | n + 1, f, as, M => match P.fns[f]? with
    | some k => if as.length = k.np then finish k.trunc M (runSs P w (callF P w n) k.body (as.map some ++ List.replicate (k.names.length - k.np) none) M) else .stuck
    | none => .stuck
end G

/-! GRep -/
set_option maxRecDepth 100000
set_option maxHeartbeats 4000000
namespace G
open PySem (Str)
open L2 (V HO Hp upd upd_same upd_ne SqL SqT Rd)

/-- what is fixed through the whole law: the written part, where the classes stand, the names by number -/
structure Gx where
  P : Pg
  K : PySem.W.Frag
  cl : Nat → PySem.Addr
def Gx.nm (X : Gx) (i : Nat) : Str := X.P.nms.getD i Str.empty

/-- where the store's objects stand; addresses that nobody reads or writes meanwhile -/
structure Am where
  ad : List PySem.Addr
  pv : PySem.Addr → Prop
def Am.add (al : Am) (p : PySem.Addr) : Am := ⟨al.ad ++ [p], al.pv⟩
def live (M : Store) (n : Nat) : Prop := ∃ o, M[n]? = some o ∧ o.hot = true
def ndl (M : Store) (n : Nat) : Prop := ∃ o, M[n]? = some o ∧ o ≠ Ob.dead
theorem live.nd {M : Store} {n : Nat} (h : live M n) : ndl M n := by
  obtain ⟨o, e, ho⟩ := h
  exact ⟨o, e, by rintro rfl; cases ho⟩
def Hot (al : Am) (M : Store) (a : PySem.Addr) : Prop := (∃ n, live M n ∧ al.ad[n]? = some a) ∨ al.pv a
def Scr (K : PySem.W.Frag) (H : Hp) (a : PySem.Addr) (ns : List Int) : Prop :=
  (∃ o, H a = some (.frz o (.lst (ns.map V.int)))) ∨
    ∃ (o : PySem.Obj) (its : Array PySem.Value) (n : Nat), K.lookup a = some o ∧ o.cls = .type "list" ∧ o.dict = none ∧ o.data = .seq its n ∧ its.size ≤ PySem.sizeLine ∧ L2.Vals (ns.map V.int) its.toList
theorem Scr.sq {K : PySem.W.Frag} {H : Hp} {a : PySem.Addr} {ns : List Int} (h : Scr K H a ns) : SqL K H a (ns.map V.int) := by
  rcases h with ⟨o, h⟩ | h
  · exact .inl (.inr ⟨o, h⟩)
  · exact .inr h

mutual
def Rep (K : PySem.W.Frag) (H : Hp) (al : Am) (M : Store) : D → V → Prop
  | .non, v => v = .non
  | .bl b, v => v = .bl b
  | .int i, v => v = .int i
  | .str x, v => v = .str x
  | .tup ds, v => ∃ a vs, v = .ref a ∧ H a = some (.tup vs) ∧ Reps K H al M ds vs
  | .lst ds, v => ∃ a vs, v = .ref a ∧ H a = some (.lst vs) ∧ ¬ Hot al M a ∧ Reps K H al M ds vs
  | .scr ns, v => ∃ a, v = .ref a ∧ Scr K H a ns
  | .ptr n, v => ∃ a, v = .ref a ∧ al.ad[n]? = some a
def Reps (K : PySem.W.Frag) (H : Hp) (al : Am) (M : Store) : List D → List V → Prop
  | [], vs => vs = []
  | d :: ds, vs => ∃ v r, vs = v :: r ∧ Rep K H al M d v ∧ Reps K H al M ds r
end
theorem Reps.nil {K : PySem.W.Frag} {H : Hp} {al : Am} {M : Store} : Reps K H al M [] [] := by simp [Reps]
theorem Reps.cons {K : PySem.W.Frag} {H : Hp} {al : Am} {M : Store} {d : D} {ds : List D} {v : V} {vs : List V} (h : Rep K H al M d v) (t : Reps K H al M ds vs) : Reps K H al M (d :: ds) (v :: vs) := by
  rw [Reps]; exact ⟨v, vs, rfl, h, t⟩

/-- the attributes of an instance, in order -/
def Fsr (nm : Nat → Str) (K : PySem.W.Frag) (H : Hp) (al : Am) (M : Store) : List (Nat × D) → List (Str × V) → Prop
  | [], vs => vs = []
  | p :: ds, vs => ∃ v r, vs = (nm p.1, v) :: r ∧ Rep K H al M p.2 v ∧ Fsr nm K H al M ds r
/-- a key, by what it is -/
def kD : L2.Key → D
  | .inl i => .int i
  | .inr x => .str x
def tD (ks : List L2.Key) : D := .tup (ks.map kD)
/-- the items of a dict, in order -/
def Dr {κ : Type} (kf : κ → D) (K : PySem.W.Frag) (H : Hp) (al : Am) (M : Store) : List (D × D) → List (κ × V) → Prop
  | [], vs => vs = []
  | p :: ds, vs => ∃ k v r, vs = (k, v) :: r ∧ p.1 = kf k ∧ Rep K H al M p.2 v ∧ Dr kf K H al M ds r
/-- what a dict's object says -/
def Dcr (tk : Bool) (K : PySem.W.Frag) (H : Hp) (al : Am) (M : Store) (kvs : List (D × D)) (u : HO) : Prop :=
  match tk with
  | false => ∃ xs, u = .dK xs ∧ Dr kD K H al M kvs xs
  | true => ∃ xs, u = .dT xs ∧ Dr tD K H al M kvs xs
def Obr (X : Gx) (H : Hp) (al : Am) (M : Store) : Ob → PySem.Addr → Prop
  | .dead, _ => True
  | .dic tk kvs, a => ∃ u, H a = some u ∧ Dcr tk X.K H al M kvs u
  | .fdic tk kvs, a => ∃ o u, H a = some (.frz o u) ∧ Dcr tk X.K H al M kvs u
  | .lst ds, a => ∃ vs, H a = some (.lst vs) ∧ Reps X.K H al M ds vs
  | .ins c fs, a => ∃ dx vfs, H a = some (.ins (X.cl c) dx vfs) ∧ Fsr X.nm X.K H al M fs vfs ∧ ∀ p ∈ fs, p.1 < X.P.nms.length
structure Sto (X : Gx) (H : Hp) (al : Am) (M : Store) : Prop where
  len : al.ad.length = M.length
  at_ : ∀ (n : Nat) o a, M[n]? = some o → al.ad[n]? = some a → Obr X H al M o a
  inj : ∀ (i j : Nat) a, ndl M i → ndl M j → al.ad[i]? = some a → al.ad[j]? = some a → i = j
  pvl : ∀ a, al.pv a → ∃ vs, H a = some (.lst vs)
  pvd : ∀ (n : Nat) a, live M n → al.ad[n]? = some a → ¬ al.pv a
structure Stp (H : Hp) (al : Am) (M : Store) (H' : Hp) (al' : Am) (M' : Store) : Prop where
  pre : ∃ more, al'.ad = al.ad ++ more
  pv : al'.pv = al.pv
  pvk : ∀ a, al.pv a → H' a = H a
  keep : ∀ a o, H a = some o → ¬ Hot al M a → H' a = some o
  dom : ∀ a, H a ≠ none → H' a ≠ none
  alive : ∀ (n : Nat), n < al.ad.length → live M' n → live M n
  new : ∀ (n : Nat) a, al.ad.length ≤ n → al'.ad[n]? = some a → H a = none
structure Envr (K : PySem.W.Frag) (H : Hp) (al : Am) (M : Store) (σ : L2.St) (ρ : Rho) : Prop where
  len : ρ.length = σ.length
  at_ : ∀ (i : Nat) d, ρ[i]? = some (some d) → ∃ v, σ[i]? = some (some v) ∧ Rep K H al M d v

section
variable {X : Gx} {K : PySem.W.Frag} {H H' H1 H2 : Hp} {al al' al1 al2 : Am} {M M' M1 M2 : Store} {a p : PySem.Addr} {n : Nat} {o : HO} {ob : Ob}
theorem live_lt (h : live M n) : n < M.length := by
  obtain ⟨o, e, _⟩ := h
  exact (List.getElem?_eq_some_iff.mp e).1
/-- what stands at a hot address -/
theorem Sto.hot (S : Sto X H al M) (h : Hot al M a) : (∃ vs, H a = some (.lst vs)) ∨ (∃ C dx fs, H a = some (.ins C dx fs)) ∨ (∃ xs, H a = some (.dK xs)) ∨ ∃ xs, H a = some (.dT xs) := by
  rcases h with ⟨n, ⟨o, e, hd⟩, ha⟩ | h
  · have := S.at_ n o a e ha
    cases o with
    | dead => cases hd
    | fdic tk kvs => cases hd
    | lst ds => obtain ⟨vs, e, _⟩ := this; exact .inl ⟨vs, e⟩
    | ins c fs => obtain ⟨dx, vfs, e, _⟩ := this; exact .inr (.inl ⟨_, dx, vfs, e⟩)
    | dic tk kvs =>
      obtain ⟨u, e, r⟩ := this
      cases tk with
      | false => obtain ⟨xs, rfl, _⟩ := r; exact .inr (.inr (.inl ⟨xs, e⟩))
      | true => obtain ⟨xs, rfl, _⟩ := r; exact .inr (.inr (.inr ⟨xs, e⟩))
  · exact .inl (S.pvl a h)
theorem Sto.ne (S : Sto X H al M) (h : Hot al M a) : H a ≠ none := by
  rcases S.hot h with ⟨_, e⟩ | ⟨_, _, _, e⟩ | ⟨_, e⟩ | ⟨_, e⟩ <;> rw [e] <;> simp
/-- what stands at a place that is not dead -/
theorem Obr.some_ (h : Obr X H al M ob a) (hd : ob ≠ .dead) : H a ≠ none := by
  cases ob with
  | dead => exact absurd rfl hd
  | lst ds => obtain ⟨vs, e, _⟩ := h; rw [e]; simp
  | ins c fs => obtain ⟨dx, vfs, e, _⟩ := h; rw [e]; simp
  | dic tk kvs => obtain ⟨u, e, _⟩ := h; rw [e]; simp
  | fdic tk kvs => obtain ⟨o, u, e, _⟩ := h; rw [e]; simp
/-- two places stand apart -/
theorem Sto.apart (S : Sto X H al M) (hn : live M n) (ha : al.ad[n]? = some a) {k : Nat} {u : Ob} {b : PySem.Addr} (e : M[k]? = some u) (hb : al.ad[k]? = some b) (hk : n ≠ k) (hu : u ≠ .dead) : b ≠ a := by
  rintro rfl
  exact hk (S.inj n k b hn.nd ⟨u, e, hu⟩ ha hb)
theorem Stp.refl : Stp H al M H al M := ⟨⟨[], by simp⟩, rfl, fun _ _ => rfl, fun _ _ e _ => e, fun _ h => h, fun _ _ h => h, fun n a hn e => by
  have := (List.getElem?_eq_some_iff.mp e).1; omega⟩
theorem Stp.get (s : Stp H al M H' al' M') {x : PySem.Addr} (h : al.ad[n]? = some x) : al'.ad[n]? = some x := by
  obtain ⟨more, e⟩ := s.pre
  rw [e, List.getElem?_append_left (List.getElem?_eq_some_iff.mp h).1]
  exact h
theorem Stp.nothot (s : Stp H al M H' al' M') (h : ¬ Hot al M a) (hs : H a ≠ none) : ¬ Hot al' M' a := by
  rintro (⟨n, hl, e⟩ | hp)
  · by_cases hn : n < al.ad.length
    · refine h (.inl ⟨n, s.alive n hn hl, ?_⟩)
      obtain ⟨more, e'⟩ := s.pre
      rw [e', List.getElem?_append_left hn] at e
      exact e
    · exact hs (s.new n a (Nat.le_of_not_lt hn) e)
  · exact h (.inr (by rw [← s.pv]; exact hp))
theorem Stp.trans (s : Stp H al M H1 al1 M1) (t : Stp H1 al1 M1 H2 al2 M2) : Stp H al M H2 al2 M2 := by
  obtain ⟨m1, e1⟩ := id s.pre
  obtain ⟨m2, e2⟩ := id t.pre
  refine ⟨⟨m1 ++ m2, by rw [e2, e1, List.append_assoc]⟩, t.pv.trans s.pv, fun a h => (t.pvk a (by rw [s.pv]; exact h)).trans (s.pvk a h), fun a o e h => ?_, fun a h => t.dom a (s.dom a h), fun n hn hl => ?_, fun n a hn e => ?_⟩
  · exact t.keep a o (s.keep a o e h) (s.nothot h (by rw [e]; simp))
  · refine s.alive n hn (t.alive n ?_ hl)
    rw [e1, List.length_append]; omega
  · by_cases h1 : n < al1.ad.length
    · have : al1.ad[n]? = some a := by
        rw [e2, List.getElem?_append_left h1] at e
        exact e
      exact s.new n a hn this
    · have h2 := t.new n a (Nat.le_of_not_lt h1) e
      cases q : H a with
      | none => rfl
      | some o => exact absurd h2 (s.dom a (by rw [q]; simp))

theorem Sto.tup_nothot (S : Sto X H al M) {vs : List V} (e : H a = some (.tup vs)) : ¬ Hot al M a := fun h => by
  rcases S.hot h with ⟨_, q⟩ | ⟨_, _, _, q⟩ | ⟨_, q⟩ | ⟨_, q⟩ <;> rw [e] at q <;> cases q
theorem Sto.frz_nothot (S : Sto X H al M) {ob : PySem.Obj} {u : HO} (e : H a = some (.frz ob u)) : ¬ Hot al M a := fun h => by
  rcases S.hot h with ⟨_, q⟩ | ⟨_, _, _, q⟩ | ⟨_, q⟩ | ⟨_, q⟩ <;> rw [e] at q <;> cases q
theorem Scr.mono (S : Sto X H al M) (s : Stp H al M H' al' M') {ns : List Int} (h : Scr K H a ns) : Scr K H' a ns := by
  rcases h with ⟨o, h⟩ | h
  · exact .inl ⟨o, s.keep a _ h (S.frz_nothot h)⟩
  · exact .inr h
mutual
theorem Rep.mono (S : Sto X H al M) (s : Stp H al M H' al' M') : ∀ (d : D) (v : V), Rep K H al M d v → Rep K H' al' M' d v
  | .non, _, h => by rw [Rep] at h ⊢; exact h
  | .bl _, _, h => by rw [Rep] at h ⊢; exact h
  | .int _, _, h => by rw [Rep] at h ⊢; exact h
  | .str _, _, h => by rw [Rep] at h ⊢; exact h
  | .tup ds, v, h => by
    rw [Rep] at h ⊢
    obtain ⟨a, vs, e, h1, h2⟩ := h
    exact ⟨a, vs, e, s.keep a _ h1 (S.tup_nothot h1), Reps.mono S s ds vs h2⟩
  | .lst ds, v, h => by
    rw [Rep] at h ⊢
    obtain ⟨a, vs, e, h1, h2, h3⟩ := h
    exact ⟨a, vs, e, s.keep a _ h1 h2, s.nothot h2 (by rw [h1]; simp), Reps.mono S s ds vs h3⟩
  | .scr ns, v, h => by
    rw [Rep] at h ⊢
    obtain ⟨a, e, h1⟩ := h
    exact ⟨a, e, h1.mono S s⟩
  | .ptr n, v, h => by
    rw [Rep] at h ⊢
    obtain ⟨a, e, h1⟩ := h
    exact ⟨a, e, s.get h1⟩
theorem Reps.mono (S : Sto X H al M) (s : Stp H al M H' al' M') : ∀ (ds : List D) (vs : List V), Reps K H al M ds vs → Reps K H' al' M' ds vs
  | [], _, h => by rw [Reps] at h ⊢; exact h
  | d :: ds, vs, h => by
    rw [Reps] at h ⊢
    obtain ⟨v, r, e, h1, h2⟩ := h
    exact ⟨v, r, e, Rep.mono S s d v h1, Reps.mono S s ds r h2⟩
end
theorem Fsr.mono {nm : Nat → Str} (S : Sto X H al M) (s : Stp H al M H' al' M') : ∀ (fs : List (Nat × D)) (vs : List (Str × V)), Fsr nm K H al M fs vs → Fsr nm K H' al' M' fs vs
  | [], _, h => h
  | p :: ds, vs, h => by
    obtain ⟨v, r, e, h1, h2⟩ := h
    exact ⟨v, r, e, Rep.mono S s _ v h1, Fsr.mono S s ds r h2⟩
theorem Dr.mono {κ : Type} {kf : κ → D} (S : Sto X H al M) (s : Stp H al M H' al' M') : ∀ (ds : List (D × D)) (vs : List (κ × V)), Dr kf K H al M ds vs → Dr kf K H' al' M' ds vs
  | [], _, h => h
  | p :: ds, vs, h => by
    obtain ⟨k, v, r, e, hk, h1, h2⟩ := h
    exact ⟨k, v, r, e, hk, Rep.mono S s _ v h1, Dr.mono S s ds r h2⟩
theorem Dcr.mono {tk : Bool} {kvs : List (D × D)} {u : HO} (S : Sto X H al M) (s : Stp H al M H' al' M') (h : Dcr tk K H al M kvs u) : Dcr tk K H' al' M' kvs u := by
  cases tk with
  | false => obtain ⟨xs, e, r⟩ := h; exact ⟨xs, e, r.mono S s⟩
  | true => obtain ⟨xs, e, r⟩ := h; exact ⟨xs, e, r.mono S s⟩
theorem Envr.mono {σ : L2.St} {ρ : Rho} (S : Sto X H al M) (s : Stp H al M H' al' M') (h : Envr K H al M σ ρ) : Envr K H' al' M' σ ρ :=
  ⟨h.len, fun i d e => let ⟨v, e1, r⟩ := h.at_ i d e; ⟨v, e1, r.mono S s⟩⟩
theorem Envr.set {σ : L2.St} {ρ : Rho} {d : D} {v : V} (h : Envr K H al M σ ρ) (r : Rep K H al M d v) (i : Nat) : Envr K H al M (σ.set i (some v)) (ρ.set i (some d)) := by
  refine ⟨by simp [h.len], fun j d' e => ?_⟩
  by_cases hj : i = j
  · subst hj
    have hlt : i < ρ.length := by
      have := (List.getElem?_eq_some_iff.mp e).1; simpa using this
    rw [List.getElem?_set_self hlt] at e
    cases e
    exact ⟨v, by rw [List.getElem?_set_self (by rw [← h.len]; exact hlt)], r⟩
  · rw [List.getElem?_set_ne hj] at e
    rw [List.getElem?_set_ne hj]
    exact h.at_ j d' e
theorem Reps.length : ∀ {ds : List D} {vs : List V}, Reps K H al M ds vs → vs.length = ds.length
  | [], vs, h => by rw [Reps] at h; subst h; rfl
  | d :: ds, vs, h => by
    rw [Reps] at h
    obtain ⟨v, r, e, _, h2⟩ := h
    rw [e, List.length_cons, List.length_cons, Reps.length h2]
theorem Reps.get : ∀ {ds : List D} {vs : List V} {i : Nat} {d : D}, Reps K H al M ds vs → ds[i]? = some d → ∃ v, vs[i]? = some v ∧ Rep K H al M d v
  | [], _, _, _, _, e => by simp at e
  | d :: ds, vs, i, d', h, e => by
    rw [Reps] at h
    obtain ⟨v, r, e1, h1, h2⟩ := h
    subst e1
    cases i with
    | zero => simp at e; subst e; exact ⟨v, by simp, h1⟩
    | succ i =>
      obtain ⟨v', q1, q2⟩ := Reps.get (i := i) h2 (by simpa using e)
      exact ⟨v', by simpa using q1, q2⟩
theorem Reps.get' : ∀ {ds : List D} {vs : List V} {i : Nat} {v : V}, Reps K H al M ds vs → vs[i]? = some v → ∃ d, ds[i]? = some d ∧ Rep K H al M d v := fun {ds vs i v} h e => by
  have hl := h.length
  have hi := (List.getElem?_eq_some_iff.mp e).1
  have : i < ds.length := by omega
  obtain ⟨v', q1, q2⟩ := h.get (i := i) (d := ds[i]) (by simp [this])
  rw [e] at q1; cases q1
  exact ⟨_, by simp [this], q2⟩
theorem Reps.append : ∀ {ds es : List D} {vs ws : List V}, Reps K H al M ds vs → Reps K H al M es ws → Reps K H al M (ds ++ es) (vs ++ ws)
  | [], _, _, _, h, t => by rw [Reps] at h; subst h; simpa using t
  | d :: ds, es, vs, ws, h, t => by
    rw [Reps] at h
    obtain ⟨v, r, e, h1, h2⟩ := h
    subst e
    exact .cons h1 (Reps.append h2 t)
theorem Reps.take : ∀ {ds : List D} {vs : List V} (n : Nat), Reps K H al M ds vs → Reps K H al M (ds.take n) (vs.take n)
  | ds, vs, 0, h => by simpa using Reps.nil
  | [], vs, n + 1, h => by rw [Reps] at h; subst h; simpa using Reps.nil
  | d :: ds, vs, n + 1, h => by
    rw [Reps] at h
    obtain ⟨v, r, e, h1, h2⟩ := h
    subst e
    exact .cons h1 (Reps.take n h2)
theorem Reps.drop : ∀ {ds : List D} {vs : List V} (n : Nat), Reps K H al M ds vs → Reps K H al M (ds.drop n) (vs.drop n)
  | ds, vs, 0, h => by simpa using h
  | [], vs, n + 1, h => by rw [Reps] at h; subst h; simpa using Reps.nil
  | d :: ds, vs, n + 1, h => by
    rw [Reps] at h
    obtain ⟨v, r, e, h1, h2⟩ := h
    subst e
    simpa using Reps.drop n h2
theorem Reps.setl {d : D} {v : V} (r : Rep K H al M d v) : ∀ {ds : List D} {vs : List V} (n : Nat), Reps K H al M ds vs → Reps K H al M (ds.set n d) (vs.set n v)
  | [], vs, n, h => by rw [Reps] at h; subst h; simpa using Reps.nil
  | e :: ds, vs, n, h => by
    rw [Reps] at h
    obtain ⟨v', r', e', h1, h2⟩ := h
    subst e'
    cases n with
    | zero => exact .cons r h2
    | succ n => exact .cons h1 (Reps.setl r n h2)
theorem Reps.ints : ∀ {ns : List Int} {vs : List V}, Reps K H al M (ns.map D.int) vs → vs = ns.map V.int
  | [], vs, h => by simpa [Reps] using h
  | n :: ns, vs, h => by
    rw [List.map_cons, Reps] at h
    obtain ⟨v, r, e, h1, h2⟩ := h
    rw [Rep] at h1
    rw [e, h1, Reps.ints h2, List.map_cons]
theorem Reps.of_ints : ∀ (ns : List Int), Reps K H al M (ns.map D.int) (ns.map V.int)
  | [] => by simpa using Reps.nil
  | n :: ns => by rw [List.map_cons, List.map_cons]; exact .cons (by rw [Rep]) (Reps.of_ints ns)
theorem Reps.flatten : ∀ (k : Nat) {ds : List D} {vs : List V}, Reps K H al M ds vs → Reps K H al M (List.replicate k ds).flatten (List.replicate k vs).flatten
  | 0, _, _, _ => by simpa using Reps.nil
  | k + 1, _, _, h => by
    rw [List.replicate_succ, List.flatten_cons, List.replicate_succ, List.flatten_cons]
    exact h.append (Reps.flatten k h)
theorem Reps.dropLast {ds : List D} {vs : List V} (h : Reps K H al M ds vs) : Reps K H al M ds.dropLast vs.dropLast := by
  rw [List.dropLast_eq_take, List.dropLast_eq_take, h.length]; exact h.take _
theorem Reps.erase {ds : List D} {vs : List V} (h : Reps K H al M ds vs) (i : Nat) : Reps K H al M (ds.eraseIdx i) (vs.eraseIdx i) := by
  rw [List.eraseIdx_eq_take_drop_succ, List.eraseIdx_eq_take_drop_succ]; exact (h.take i).append (h.drop _)

theorem Obr.mono (S : Sto X H al M) (s : Stp H al M H' al' M') (h : Obr X H al M ob a) (e : H' a = H a) : Obr X H' al' M' ob a := by
  cases ob with
  | dead => trivial
  | lst ds => obtain ⟨vs, e1, r⟩ := h; exact ⟨vs, by rw [e, e1], r.mono S s⟩
  | ins c fs => obtain ⟨dx, vfs, e1, r, q⟩ := h; exact ⟨dx, vfs, by rw [e, e1], r.mono S s, q⟩
  | dic tk kvs => obtain ⟨u, e1, r⟩ := h; exact ⟨u, by rw [e, e1], r.mono S s⟩
  | fdic tk kvs => obtain ⟨o, u, e1, r⟩ := h; exact ⟨o, u, by rw [e, e1], r.mono S s⟩
theorem live_set (h : live M n) (k : Nat) (hk : live (M.set n ob) k) : live M k := by
  by_cases e : n = k
  · subst e; exact h
  · obtain ⟨o, e1, d⟩ := hk
    rw [List.getElem?_set_ne e] at e1
    exact ⟨o, e1, d⟩
theorem ndl_set (h : live M n) (k : Nat) (hk : ndl (M.set n ob) k) : ndl M k := by
  by_cases e : n = k
  · subst e; exact h.nd
  · obtain ⟨o, e1, d⟩ := hk
    rw [List.getElem?_set_ne e] at e1
    exact ⟨o, e1, d⟩
theorem Stp.chg (S : Sto X H al M) (h : live M n) (ha : al.ad[n]? = some a) : Stp H al M (upd H a o) al (M.set n ob) := by
  refine ⟨⟨[], by simp⟩, rfl, fun b hb => upd_ne (by rintro rfl; exact S.pvd n b h ha hb), fun b u e hb => ?_, fun b hb => ?_, fun k _ hk => live_set h k hk, fun k b hk e => ?_⟩
  · rw [upd_ne]; exact e
    rintro rfl; exact hb (.inl ⟨n, h, ha⟩)
  · by_cases q : b = a
    · subst q; rw [upd_same]; simp
    · rw [upd_ne q]; exact hb
  · have := (List.getElem?_eq_some_iff.mp e).1; omega
theorem Sto.chg (S : Sto X H al M) (h : live M n) (ha : al.ad[n]? = some a) (new : Obr X (upd H a o) al (M.set n ob) ob a) : Sto X (upd H a o) al (M.set n ob) := by
  have s : Stp H al M (L2.upd H a o) al (M.set n ob) := Stp.chg S h ha
  refine ⟨by simp [S.len], fun k u b e hb => ?_, fun i j b hi hj ei ej => S.inj i j b (ndl_set h i hi) (ndl_set h j hj) ei ej, fun b hb => ?_, fun i b hi e => S.pvd i b (live_set h i hi) e⟩
  · by_cases hk : n = k
    · subst hk
      rw [List.getElem?_set_self (live_lt h)] at e
      cases e
      rw [ha] at hb; cases hb
      exact new
    · rw [List.getElem?_set_ne hk] at e
      have old := S.at_ k u b e hb
      cases hu : u with
      | dead => trivial
      | _ =>
        exact (hu ▸ old).mono S s (upd_ne (S.apart h ha e hb hk (by rw [hu]; simp)))
  · obtain ⟨vs, e⟩ := S.pvl b hb
    exact ⟨vs, by rw [upd_ne (by rintro rfl; exact S.pvd n b h ha hb)]; exact e⟩
/-- the object at n is let go: it stays as it is -/
theorem Stp.drop (h : live M n) : Stp H al M H al (M.set n .dead) :=
  ⟨⟨[], by simp⟩, rfl, fun _ _ => rfl, fun _ _ e _ => e, fun _ h => h, fun k _ hk => live_set h k hk, fun k b hk e => by have := (List.getElem?_eq_some_iff.mp e).1; omega⟩
theorem Sto.drop (S : Sto X H al M) (h : live M n) : Sto X H al (M.set n .dead) := by
  have s : Stp H al M H al (M.set n .dead) := Stp.drop h
  refine ⟨by simp [S.len], fun k u b e hb => ?_, fun i j b hi hj ei ej => S.inj i j b (ndl_set h i hi) (ndl_set h j hj) ei ej, S.pvl, fun i b hi e => S.pvd i b (live_set h i hi) e⟩
  by_cases hk : n = k
  · subst hk
    rw [List.getElem?_set_self (live_lt h)] at e
    cases e
    trivial
  · rw [List.getElem?_set_ne hk] at e
    exact (S.at_ k u b e hb).mono S s rfl
theorem Sto.cold_of_drop (S : Sto X H al M) (h : live M n) (ha : al.ad[n]? = some a) : ¬ Hot al (M.set n .dead) a := by
  rintro (⟨k, hk, e⟩ | hp)
  · have : n = k := S.inj n k a h.nd (live_set h k hk).nd ha e
    subst this
    obtain ⟨o, e1, d⟩ := hk
    rw [List.getElem?_set_self (live_lt h)] at e1
    cases e1
    cases d
  · exact S.pvd n a h ha hp
theorem Sto.fresh_nothot (S : Sto X H al M) (hp : H p = none) : ¬ Hot al M p := fun h => S.ne h hp
theorem Sto.fresh_nopv (S : Sto X H al M) (hp : H p = none) : ¬ al.pv p := fun h => S.ne (.inr h) hp
theorem Stp.cold (S : Sto X H al M) (hp : H p = none) : Stp H al M (upd H p o) al M :=
  ⟨⟨[], by simp⟩, rfl, fun b hb => upd_ne (by rintro rfl; exact S.fresh_nopv hp hb), fun b u e _ => by rw [upd_ne (L2.ne_of_none e hp)]; exact e, fun b hb => by
    by_cases q : b = p
    · subst q; rw [upd_same]; simp
    · rw [upd_ne q]; exact hb, fun _ _ h => h, fun k b hk e => by have := (List.getElem?_eq_some_iff.mp e).1; omega⟩
theorem Sto.cold (S : Sto X H al M) (hp : H p = none) : Sto X (upd H p o) al M := by
  have s : Stp H al M (L2.upd H p o) al M := Stp.cold S hp
  refine ⟨S.len, fun k u b e hb => ?_, S.inj, fun b hb => ?_, S.pvd⟩
  · cases hu : u with
    | dead => trivial
    | _ =>
      refine (hu ▸ S.at_ k u b e hb).mono S s (upd_ne ?_)
      rintro rfl
      exact (S.at_ k u b e hb).some_ (by rw [hu]; simp) hp
  · obtain ⟨vs, e⟩ := S.pvl b hb
    exact ⟨vs, by rw [upd_ne (by rintro rfl; exact S.fresh_nopv hp hb)]; exact e⟩
theorem live_app {k : Nat} (hk : k < M.length) : live (M ++ [ob]) k ↔ live M k := by
  unfold live
  rw [List.getElem?_append_left hk]
theorem ndl_app {k : Nat} (hk : k < M.length) : ndl (M ++ [ob]) k ↔ ndl M k := by
  unfold ndl
  rw [List.getElem?_append_left hk]
theorem add_get {k : Nat} {b : PySem.Addr} (e : (al.add p).ad[k]? = some b) : (k < al.ad.length ∧ al.ad[k]? = some b) ∨ (k = al.ad.length ∧ b = p) := by
  unfold Am.add at e
  by_cases hk : k < al.ad.length
  · rw [List.getElem?_append_left hk] at e; exact .inl ⟨hk, e⟩
  · have hl := (List.getElem?_eq_some_iff.mp e).1
    rw [List.length_append, List.length_singleton] at hl
    have : k = al.ad.length := by omega
    subst this
    simp at e
    exact .inr ⟨rfl, e.symm⟩
theorem Stp.alloc (S : Sto X H al M) (hp : H p = none) : Stp H al M (upd H p o) (al.add p) (M ++ [ob]) := by
  have c : Stp H al M (L2.upd H p o) al M := Stp.cold S hp
  refine ⟨⟨[p], rfl⟩, rfl, c.pvk, c.keep, c.dom, fun k hk h => (live_app (by rw [← S.len]; exact hk)).mp h, fun k b hk e => ?_⟩
  rcases add_get e with ⟨h1, _⟩ | ⟨_, rfl⟩
  · omega
  · exact hp
/-- an object at p is taken into the store -/
theorem Sto.take_in (S : Sto X H al M) (hpd : ∀ (k : Nat) u, M[k]? = some u → u ≠ Ob.dead → al.ad[k]? ≠ some p) (hpv : ¬ al.pv p) (mono : ∀ u b, u ≠ Ob.dead → Obr X H al M u b → b ≠ p → Obr X H' (al.add p) (M ++ [ob]) u b) (pvl : ∀ a, al.pv a → ∃ vs, H' a = some (.lst vs))
    (new : Obr X H' (al.add p) (M ++ [ob]) ob p) : Sto X H' (al.add p) (M ++ [ob]) := by
  have hS := S.len
  refine ⟨by simp [Am.add, S.len], fun k u b e hb => ?_, fun i j b hi hj ei ej => ?_, pvl, fun i b hi e => ?_⟩
  · rcases add_get hb with ⟨hk, hc⟩ | ⟨hk, hc⟩
    · rw [List.getElem?_append_left (by omega)] at e
      by_cases hu : u = .dead
      · subst hu; trivial
      · exact mono u b hu (S.at_ k u b e hc) (by rintro rfl; exact hpd k u e hu hc)
    · subst hc hk
      rw [hS] at e
      simp at e
      rw [← e]; exact new
  · rcases add_get ei with ⟨h1, e1⟩ | ⟨h1, e1⟩ <;> rcases add_get ej with ⟨h2, e2⟩ | ⟨h2, e2⟩
    · exact S.inj i j b ((ndl_app (by omega)).mp hi) ((ndl_app (by omega)).mp hj) e1 e2
    · subst e2
      obtain ⟨o, e, ho⟩ := (ndl_app (by omega)).mp hi
      exact absurd e1 (hpd i o e ho)
    · subst e1
      obtain ⟨o, e, ho⟩ := (ndl_app (by omega)).mp hj
      exact absurd e2 (hpd j o e ho)
    · rw [h1, h2]
  · rcases add_get e with ⟨h1, e1⟩ | ⟨h1, e1⟩
    · exact S.pvd i b ((live_app (by omega)).mp hi) e1
    · subst e1; exact hpv
theorem Sto.alloc (S : Sto X H al M) (hp : H p = none) (new : Obr X (upd H p o) (al.add p) (M ++ [ob]) ob p) : Sto X (upd H p o) (al.add p) (M ++ [ob]) := by
  have s : Stp H al M (L2.upd H p o) (al.add p) (M ++ [ob]) := Stp.alloc S hp
  refine S.take_in (fun k u e hu hc => (S.at_ k u p e hc).some_ hu hp) (S.fresh_nopv hp) (fun u b hu h hb => h.mono S s (upd_ne hb)) (fun b hb => ?_) new
  obtain ⟨vs, e⟩ := S.pvl b hb
  exact ⟨vs, by rw [upd_ne (by rintro rfl; exact S.fresh_nopv hp hb)]; exact e⟩
/-- the same heap, fewer hot addresses -/
structure Reh (al : Am) (M : Store) (al' : Am) (M' : Store) : Prop where
  pre : ∃ more, al'.ad = al.ad ++ more
  hot : ∀ a, Hot al' M' a → Hot al M a
theorem Reh.get (s : Reh al M al' M') {x : PySem.Addr} (h : al.ad[n]? = some x) : al'.ad[n]? = some x := by
  obtain ⟨more, e⟩ := s.pre
  rw [e, List.getElem?_append_left (List.getElem?_eq_some_iff.mp h).1]
  exact h
mutual
theorem Rep.reh (s : Reh al M al' M') : ∀ (d : D) (v : V), Rep K H al M d v → Rep K H al' M' d v
  | .non, _, h => by rw [Rep] at h ⊢; exact h
  | .bl _, _, h => by rw [Rep] at h ⊢; exact h
  | .int _, _, h => by rw [Rep] at h ⊢; exact h
  | .str _, _, h => by rw [Rep] at h ⊢; exact h
  | .tup ds, v, h => by
    rw [Rep] at h ⊢
    obtain ⟨a, vs, e, h1, h2⟩ := h
    exact ⟨a, vs, e, h1, Reps.reh s ds vs h2⟩
  | .lst ds, v, h => by
    rw [Rep] at h ⊢
    obtain ⟨a, vs, e, h1, h2, h3⟩ := h
    exact ⟨a, vs, e, h1, fun q => h2 (s.hot _ q), Reps.reh s ds vs h3⟩
  | .scr ns, v, h => by rw [Rep] at h ⊢; exact h
  | .ptr n, v, h => by
    rw [Rep] at h ⊢
    obtain ⟨a, e, h1⟩ := h
    exact ⟨a, e, s.get h1⟩
theorem Reps.reh (s : Reh al M al' M') : ∀ (ds : List D) (vs : List V), Reps K H al M ds vs → Reps K H al' M' ds vs
  | [], _, h => by rw [Reps] at h ⊢; exact h
  | d :: ds, vs, h => by
    rw [Reps] at h ⊢
    obtain ⟨v, r, e, h1, h2⟩ := h
    exact ⟨v, r, e, Rep.reh s d v h1, Reps.reh s ds r h2⟩
end
theorem Fsr.reh {nm : Nat → Str} (s : Reh al M al' M') : ∀ (fs : List (Nat × D)) (vs : List (Str × V)), Fsr nm K H al M fs vs → Fsr nm K H al' M' fs vs
  | [], _, h => h
  | p :: ds, vs, h => by
    obtain ⟨v, r, e, h1, h2⟩ := h
    exact ⟨v, r, e, Rep.reh s _ v h1, Fsr.reh s ds r h2⟩
theorem Dr.reh {κ : Type} {kf : κ → D} (s : Reh al M al' M') : ∀ (ds : List (D × D)) (vs : List (κ × V)), Dr kf K H al M ds vs → Dr kf K H al' M' ds vs
  | [], _, h => h
  | p :: ds, vs, h => by
    obtain ⟨k, v, r, e, hk, h1, h2⟩ := h
    exact ⟨k, v, r, e, hk, Rep.reh s _ v h1, Dr.reh s ds r h2⟩
theorem Dcr.reh {tk : Bool} {kvs : List (D × D)} {u : HO} (s : Reh al M al' M') (h : Dcr tk K H al M kvs u) : Dcr tk K H al' M' kvs u := by
  cases tk with
  | false => obtain ⟨xs, e, r⟩ := h; exact ⟨xs, e, r.reh s⟩
  | true => obtain ⟨xs, e, r⟩ := h; exact ⟨xs, e, r.reh s⟩
theorem Obr.reh (s : Reh al M al' M') (h : Obr X H al M ob a) : Obr X H al' M' ob a := by
  cases ob with
  | dead => trivial
  | lst ds => obtain ⟨vs, e1, r⟩ := h; exact ⟨vs, e1, Reps.reh s _ _ r⟩
  | ins c fs => obtain ⟨dx, vfs, e1, r, q⟩ := h; exact ⟨dx, vfs, e1, Fsr.reh s _ _ r, q⟩
  | dic tk kvs => obtain ⟨u, e1, r⟩ := h; exact ⟨u, e1, r.reh s⟩
  | fdic tk kvs => obtain ⟨o, u, e1, r⟩ := h; exact ⟨o, u, e1, r.reh s⟩
theorem Envr.reh {σ : L2.St} {ρ : Rho} (s : Reh al M al' M') (h : Envr K H al M σ ρ) : Envr K H al' M' σ ρ :=
  ⟨h.len, fun i d e => let ⟨v, e1, r⟩ := h.at_ i d e; ⟨v, e1, Rep.reh s _ _ r⟩⟩
/-- what was laid behind a place is let go -/
theorem live_take {n k : Nat} (h : live (M.take n) k) : live M k := by
  obtain ⟨o, e, d⟩ := h
  refine ⟨o, ?_, d⟩
  by_cases hk : k < n
  · rwa [List.getElem?_take_of_lt hk] at e
  · rw [List.getElem?_take_eq_none (Nat.le_of_not_lt hk)] at e; cases e
theorem ndl_take {n k : Nat} (h : ndl (M.take n) k) : ndl M k := by
  obtain ⟨o, e, d⟩ := h
  refine ⟨o, ?_, d⟩
  by_cases hk : k < n
  · rwa [List.getElem?_take_of_lt hk] at e
  · rw [List.getElem?_take_eq_none (Nat.le_of_not_lt hk)] at e; cases e
mutual
/-- what is under the older places' number stands in the older store -/
theorem Rep.cut (Hn : ∀ a, Hot al' M' a → Hot al M a) (pre : ∀ (n : Nat) a, n < al'.ad.length → al.ad[n]? = some a → al'.ad[n]? = some a) : ∀ (d : D) (v : V), underD al'.ad.length d = true → Rep K H al M d v → Rep K H al' M' d v
  | .non, _, _, h => by rw [Rep] at h ⊢; exact h
  | .bl _, _, _, h => by rw [Rep] at h ⊢; exact h
  | .int _, _, _, h => by rw [Rep] at h ⊢; exact h
  | .str _, _, _, h => by rw [Rep] at h ⊢; exact h
  | .tup ds, v, p, h => by
    rw [Rep] at h ⊢
    obtain ⟨a, vs, e, h1, h2⟩ := h
    exact ⟨a, vs, e, h1, Reps.cut Hn pre ds vs (by simpa [underD] using p) h2⟩
  | .lst ds, v, p, h => by
    rw [Rep] at h ⊢
    obtain ⟨a, vs, e, h1, h2, h3⟩ := h
    exact ⟨a, vs, e, h1, fun q => h2 (Hn _ q), Reps.cut Hn pre ds vs (by simpa [underD] using p) h3⟩
  | .scr ns, v, _, h => by rw [Rep] at h ⊢; exact h
  | .ptr n, v, p, h => by
    rw [Rep] at h ⊢
    obtain ⟨a, e, h1⟩ := h
    exact ⟨a, e, pre n a (by simpa [underD] using p) h1⟩
theorem Reps.cut (Hn : ∀ a, Hot al' M' a → Hot al M a) (pre : ∀ (n : Nat) a, n < al'.ad.length → al.ad[n]? = some a → al'.ad[n]? = some a) : ∀ (ds : List D) (vs : List V), underDs al'.ad.length ds = true → Reps K H al M ds vs → Reps K H al' M' ds vs
  | [], _, _, h => by rw [Reps] at h ⊢; exact h
  | d :: ds, vs, p, h => by
    rw [Reps] at h ⊢
    obtain ⟨v, r, e, h1, h2⟩ := h
    rw [underDs, Bool.and_eq_true] at p
    exact ⟨v, r, e, Rep.cut Hn pre d v p.1 h1, Reps.cut Hn pre ds r p.2 h2⟩
end
theorem Fsr.cut {nm : Nat → Str} (Hn : ∀ a, Hot al' M' a → Hot al M a) (pre : ∀ (n : Nat) a, n < al'.ad.length → al.ad[n]? = some a → al'.ad[n]? = some a) : ∀ (fs : List (Nat × D)) (vs : List (Str × V)), (fs.all fun p => underD al'.ad.length p.2) = true → Fsr nm K H al M fs vs → Fsr nm K H al' M' fs vs
  | [], _, _, h => h
  | p :: ds, vs, u, h => by
    obtain ⟨v, r, e, h1, h2⟩ := h
    rw [List.all_cons, Bool.and_eq_true] at u
    exact ⟨v, r, e, Rep.cut Hn pre _ v u.1 h1, Fsr.cut Hn pre ds r u.2 h2⟩
theorem kD_under {k : Nat} (x : L2.Key) : underD k (kD x) = true := by cases x <;> rfl
theorem tD_under {k : Nat} (x : List L2.Key) : underD k (tD x) = true := by
  unfold tD
  rw [underD]
  induction x with
  | nil => rfl
  | cons a r ih => rw [List.map_cons, underDs, kD_under, ih]; rfl
theorem Dr.cut {κ : Type} {kf : κ → D} (Hn : ∀ a, Hot al' M' a → Hot al M a) (pre : ∀ (n : Nat) a, n < al'.ad.length → al.ad[n]? = some a → al'.ad[n]? = some a) : ∀ (ds : List (D × D)) (vs : List (κ × V)), (ds.all fun p => underD al'.ad.length p.1 && underD al'.ad.length p.2) = true → Dr kf K H al M ds vs → Dr kf K H al' M' ds vs
  | [], _, _, h => h
  | p :: ds, vs, u, h => by
    obtain ⟨k, v, r, e, hk, h1, h2⟩ := h
    rw [List.all_cons, Bool.and_eq_true, Bool.and_eq_true] at u
    exact ⟨k, v, r, e, hk, Rep.cut Hn pre _ v u.1.2 h1, Dr.cut Hn pre ds r u.2 h2⟩
theorem Dcr.cut {tk : Bool} {kvs : List (D × D)} {u : HO} (Hn : ∀ a, Hot al' M' a → Hot al M a) (pre : ∀ (n : Nat) a, n < al'.ad.length → al.ad[n]? = some a → al'.ad[n]? = some a) (un : (kvs.all fun p => underD al'.ad.length p.1 && underD al'.ad.length p.2) = true) (h : Dcr tk K H al M kvs u) : Dcr tk K H al' M' kvs u := by
  cases tk with
  | false => obtain ⟨xs, e, r⟩ := h; exact ⟨xs, e, r.cut Hn pre _ _ un⟩
  | true => obtain ⟨xs, e, r⟩ := h; exact ⟨xs, e, r.cut Hn pre _ _ un⟩
theorem Obr.cut (Hn : ∀ a, Hot al' M' a → Hot al M a) (pre : ∀ (n : Nat) a, n < al'.ad.length → al.ad[n]? = some a → al'.ad[n]? = some a) (u : underO al'.ad.length ob = true) (h : Obr X H al M ob a) : Obr X H al' M' ob a := by
  cases ob with
  | dead => trivial
  | lst ds => obtain ⟨vs, e1, r⟩ := h; exact ⟨vs, e1, Reps.cut Hn pre _ _ (by simpa [underO] using u) r⟩
  | ins c fs => obtain ⟨dx, vfs, e1, r, q⟩ := h; exact ⟨dx, vfs, e1, Fsr.cut Hn pre _ _ (by simpa [underO] using u) r, q⟩
  | dic tk kvs => obtain ⟨v, e1, r⟩ := h; exact ⟨v, e1, r.cut Hn pre (by rw [underO] at u; exact u)⟩
  | fdic tk kvs => obtain ⟨o, v, e1, r⟩ := h; exact ⟨o, v, e1, r.cut Hn pre (by rw [underO] at u; exact u)⟩
mutual
theorem Rep.under : ∀ (d : D) (v : V), Rep K H al M d v → underD al.ad.length d = true
  | .non, _, _ => rfl
  | .bl _, _, _ => rfl
  | .int _, _, _ => rfl
  | .str _, _, _ => rfl
  | .tup ds, v, h => by
    rw [Rep] at h
    obtain ⟨a, vs, e, h1, h2⟩ := h
    simpa [underD] using Reps.under ds vs h2
  | .lst ds, v, h => by
    rw [Rep] at h
    obtain ⟨a, vs, e, h1, h2, h3⟩ := h
    simpa [underD] using Reps.under ds vs h3
  | .scr ns, v, _ => rfl
  | .ptr n, v, h => by
    rw [Rep] at h
    obtain ⟨a, e, h1⟩ := h
    simpa [underD] using (List.getElem?_eq_some_iff.mp h1).1
theorem Reps.under : ∀ (ds : List D) (vs : List V), Reps K H al M ds vs → underDs al.ad.length ds = true
  | [], _, _ => rfl
  | d :: ds, vs, h => by
    rw [Reps] at h
    obtain ⟨v, r, e, h1, h2⟩ := h
    rw [underDs, Rep.under d v h1, Reps.under ds r h2]; rfl
end
theorem Fsr.under {nm : Nat → Str} : ∀ (fs : List (Nat × D)) (vs : List (Str × V)), Fsr nm K H al M fs vs → (fs.all fun p => underD al.ad.length p.2) = true
  | [], _, _ => rfl
  | p :: ds, vs, h => by
    obtain ⟨v, r, e, h1, h2⟩ := h
    rw [List.all_cons, Rep.under _ v h1, Fsr.under ds r h2]; rfl
theorem Dr.under {κ : Type} {kf : κ → D} (hk : ∀ k x, underD k (kf x) = true) : ∀ (ds : List (D × D)) (vs : List (κ × V)), Dr kf K H al M ds vs → (ds.all fun p => underD al.ad.length p.1 && underD al.ad.length p.2) = true
  | [], _, _ => rfl
  | p :: ds, vs, h => by
    obtain ⟨k, v, r, e, hk', h1, h2⟩ := h
    rw [List.all_cons, Rep.under _ v h1, Dr.under hk ds r h2, hk', hk]; rfl
theorem Dcr.under {tk : Bool} {kvs : List (D × D)} {u : HO} (h : Dcr tk K H al M kvs u) : (kvs.all fun p => underD al.ad.length p.1 && underD al.ad.length p.2) = true := by
  cases tk with
  | false => obtain ⟨xs, e, r⟩ := h; exact r.under (fun _ x => kD_under x)
  | true => obtain ⟨xs, e, r⟩ := h; exact r.under (fun _ x => tD_under x)
theorem Obr.under (h : Obr X H al M ob a) : underO al.ad.length ob = true := by
  cases ob with
  | dead => rfl
  | lst ds => obtain ⟨vs, e1, r⟩ := h; exact Reps.under _ _ r
  | ins c fs => obtain ⟨dx, vfs, e1, r, q⟩ := h; exact Fsr.under _ _ r
  | dic tk kvs => obtain ⟨v, e1, r⟩ := h; rw [underO]; exact r.under
  | fdic tk kvs => obtain ⟨o, v, e1, r⟩ := h; rw [underO]; exact r.under
/-- behind a call: what it has laid is let go -/
theorem cut_ok (S : Sto X H al M) (s : Stp H al M H' al' M') (S' : Sto X H' al' M') (c : M'.take M.length = M ∨ (M'.take M.length).all (underO M.length) = true) :
    Stp H al M H' al (M'.take M.length) ∧ Sto X H' al (M'.take M.length) ∧ ∀ d v, underD M.length d = true → Rep X.K H' al' M' d v → Rep X.K H' al (M'.take M.length) d v := by
  obtain ⟨more, hm⟩ := id s.pre
  have hl : M.length ≤ M'.length := by rw [← S.len, ← S'.len, hm, List.length_append]; omega
  have get : ∀ {n : Nat} {a}, al.ad[n]? = some a → al'.ad[n]? = some a := fun h => s.get h
  have pre : ∀ (n : Nat) a, n < al.ad.length → al'.ad[n]? = some a → al.ad[n]? = some a := fun n a hn e => by
    rw [hm, List.getElem?_append_left hn] at e; exact e
  have Hn : ∀ a, Hot al (M'.take M.length) a → Hot al' M' a := fun a h => by
    rcases h with ⟨n, hn, e⟩ | h
    · exact .inl ⟨n, live_take hn, get e⟩
    · exact .inr (by rw [s.pv]; exact h)
  have lt : ∀ {n : Nat}, live (M'.take M.length) n → n < al.ad.length := fun h => by
    have := live_lt h
    rw [List.length_take] at this
    rw [S.len]; omega
  refine ⟨⟨⟨[], by simp⟩, rfl, s.pvk, s.keep, s.dom, fun n hn h => s.alive n hn (live_take h), fun n a hn e => by have := (List.getElem?_eq_some_iff.mp e).1; omega⟩, ⟨?_, fun n o a e ha => ?_, fun i j a hi hj ei ej => S'.inj i j a (ndl_take hi) (ndl_take hj) (get ei) (get ej), fun a ha => S'.pvl a (by rw [s.pv]; exact ha), fun i a hi e hp => S'.pvd i a (live_take hi) (get e) (by rw [s.pv]; exact hp)⟩, fun d v u r => Rep.cut Hn pre d v (by rw [S.len]; exact u) r⟩
  · rw [List.length_take, S.len]; omega
  · have e' : M'[n]? = some o := by
      by_cases hn : n < M.length
      · rw [List.getElem?_take_of_lt hn] at e; exact e
      · rw [List.getElem?_take_eq_none (Nat.le_of_not_lt hn)] at e; cases e
    refine (S'.at_ n o a e' (get ha)).cut Hn pre ?_
    rcases c with c | c
    · rw [c] at e
      exact (S.at_ n o a e ha).under
    · rw [S.len]
      exact List.all_eq_true.mp c o (List.mem_of_getElem? e)
end
end G

/-! GExp -/
set_option maxRecDepth 100000
set_option maxHeartbeats 4000000
namespace G
open PySem (Str)
open L2 (V HO Hp upd upd_same upd_ne SqL SqT Rd WX VK TE TT TA TO R2)

section
variable {α β γ δ : Type}
abbrev Rl (α β : Type) := Hp → Am → Store → α → β → Prop
/-- how an exception's fields lie -/
def Xfs (nm : Nat → Str) (K : PySem.W.Frag) (H : Hp) (al : Am) (M : Store) (fl : List Nat) (fs : List D) (vfs : List (Str × V)) : Prop := fs.length = fl.length ∧ Fsr nm K H al M (fl.zip fs) vfs
/-- the class objects of the exceptions -/
structure Gy extends Gx where
  ec : Nat → PySem.Addr
def Exr (X : Gy) (H : Hp) (al : Am) (M : Store) (c : Nat) (fs : List D) (cls : PySem.Value) (dd : Option PySem.Addr) : Prop :=
  ∃ e d vfs, X.P.ers[c]? = some e ∧ cls = .ref (X.ec c) ∧ dd = some d ∧ H d = some (.xd vfs) ∧ Xfs X.nm X.K H al M e.flds fs vfs
/-- what is wanted of a run's end -/
def Po (X : Gy) (R : Rl α β) (W : WX) (σ : L2.St) (H : Hp) (al : Am) (M : Store) (Q : β → Hp → Prop) (r : Res α) : Prop :=
  match r with
  | .ok a M' => ∀ al' H' v, Stp H al M H' al' M' → Sto X.toGx H' al' M' → R H' al' M' a v → Q v H'
  | .err c fs M' => ∀ al' H' cls dd, Stp H al M H' al' M' → Sto X.toGx H' al' M' → Exr X H' al' M' c fs cls dd → W cls dd σ H'
  | .stuck => False
def tG (X : Gy) (R : Rl α β) (W : WX) (f : Rho → Store → Res α) : L2.St → Hp → (β → Hp → Prop) → Prop := fun σ H Q =>
  ∃ al ρ M, Sto X.toGx H al M ∧ Envr X.K H al M σ ρ ∧ Po X R W σ H al M Q (f ρ M)
def rE (X : Gy) : Rl D V := fun H al M d v => Rep X.K H al M d v
def rA (X : Gy) : Rl (List D) (List V) := fun H al M d v => Reps X.K H al M d v
def rId : Rl α α := fun _ _ _ a b => a = b
abbrev tE (X : Gy) (W : WX) (f : Rho → Store → Res D) : TE := tG X (rE X) W f
abbrev tA (X : Gy) (W : WX) (f : Rho → Store → Res (List D)) : TA := tG X (rA X) W f
abbrev tT (X : Gy) (W : WX) (f : Rho → Store → Res Bool) : TT := tG X rId W f
abbrev tO (X : Gy) (W : WX) (f : Rho → Store → Res (Option Int)) : TO := tG X rId W f

variable {X : Gy} {R : Rl α β} {R2 : Rl γ δ} {W : WX} {σ : L2.St} {H H1 : Hp} {al al1 : Am} {M M1 : Store}
theorem Po.step {Q : β → Hp → Prop} {r : Res α} (h : Po X R W σ H al M Q r) (s : Stp H al M H1 al1 M1) : Po X R W σ H1 al1 M1 Q r := by
  cases r with
  | ok a M' => exact fun al' H' v s' S r => h al' H' v (s.trans s') S r
  | err c fs M' => exact fun al' H' cls dd s' S r => h al' H' cls dd (s.trans s') S r
  | stuck => exact h
theorem Po.mono {Q Q' : β → Hp → Prop} {r : Res α} (h : Po X R W σ H al M Q r) (hq : ∀ v H', Q v H' → Q' v H') : Po X R W σ H al M Q' r := by
  cases r with
  | ok a M' => exact fun al' H' v s' S r => hq _ _ (h al' H' v s' S r)
  | err c fs M' => exact h
  | stuck => exact h
theorem Po.ok {Q : β → Hp → Prop} {a : α} {v : β} (S : Sto X.toGx H al M) (h : Po X R W σ H al M Q (.ok a M)) (r : R H al M a v) : Q v H := h al H v Stp.refl S r
/-- what the second part asks, behind the first one -/
def Nxt (X : Gy) (R : Rl α β) (R2 : Rl γ δ) (W : WX) (σ : L2.St) (H : Hp) (al : Am) (M : Store) (Q : δ → Hp → Prop) (g : α → Store → Res γ) : β → Hp → Prop := fun x H1 =>
  ∃ al1 M1 a, Stp H al M H1 al1 M1 ∧ Sto X.toGx H1 al1 M1 ∧ R H1 al1 M1 a x ∧ Po X R2 W σ H1 al1 M1 Q (g a M1)
theorem Po.bind {Q : δ → Hp → Prop} {r : Res α} {g : α → Store → Res γ} (h : Po X R2 W σ H al M Q (r.bind g)) : Po X R W σ H al M (Nxt X R R2 W σ H al M Q g) r := by
  cases r with
  | ok a M' => exact fun al' H' v s S r => ⟨al', M', a, s, S, r, Po.step h s⟩
  | err c fs M' => exact h
  | stuck => exact h
/-- one operand -/
theorem tG_one {Q : δ → Hp → Prop} {f : Rho → Store → Res α} {g : α → Store → Res γ} (h : tG X R2 W (fun ρ M => (f ρ M).bind g) σ H Q) :
    tG X R W f σ H (fun x H1 => ∃ al M a, Sto X.toGx H1 al M ∧ R H1 al M a x ∧ Po X R2 W σ H1 al M Q (g a M)) := by
  obtain ⟨al, ρ, M, S, E, p⟩ := h
  refine ⟨al, ρ, M, S, E, p.bind.mono ?_⟩
  rintro v H' ⟨al1, M1, a, _, S1, r, p1⟩
  exact ⟨al1, M1, a, S1, r, p1⟩
end

section
variable {X : Gy} {W : WX} {σ : L2.St} {H : Hp} {al : Am} {M : Store}
/-- two operands -/
theorem tG_two {γ δ : Type} {R2 : Rl γ δ} {Q : δ → Hp → Prop} {f g : Rho → Store → Res D} {k : D → D → Store → Res γ} (h : tG X R2 W (fun ρ M => (f ρ M).bind fun x M1 => (g ρ M1).bind fun y M2 => k x y M2) σ H Q) :
    tE X W f σ H (fun x H1 => tE X W g σ H1 (fun y H2 => ∃ al M a b, Sto X.toGx H2 al M ∧ Rep X.K H2 al M a x ∧ Rep X.K H2 al M b y ∧ Po X R2 W σ H2 al M Q (k a b M))) := by
  obtain ⟨al, ρ, M, S, E, p⟩ := h
  refine ⟨al, ρ, M, S, E, p.bind.mono ?_⟩
  rintro v H1 ⟨al1, M1, a, s1, S1, r1, p1⟩
  refine ⟨al1, ρ, M1, S1, E.mono S s1, p1.bind.mono ?_⟩
  rintro y H2 ⟨al2, M2, b, s2, S2, r2, p2⟩
  exact ⟨al2, M2, a, b, S2, Rep.mono S1 s2 _ _ r1, r2, p2⟩
/-- one operand, then the same slots -/
theorem tG_then {α β γ δ : Type} {R : Rl α β} {R2 : Rl γ δ} {Q : δ → Hp → Prop} {f : Rho → Store → Res α} {g : Rho → α → Store → Res γ} (h : tG X R2 W (fun ρ M => (f ρ M).bind fun a M1 => g ρ a M1) σ H Q) :
    tG X R W f σ H (fun x H1 => ∃ al ρ M a, Sto X.toGx H1 al M ∧ Envr X.K H1 al M σ ρ ∧ R H1 al M a x ∧ Po X R2 W σ H1 al M Q (g ρ a M)) := by
  obtain ⟨al, ρ, M, S, E, p⟩ := h
  refine ⟨al, ρ, M, S, E, p.bind.mono ?_⟩
  rintro v H' ⟨al1, M1, a, s1, S1, r, p1⟩
  exact ⟨al1, ρ, M1, a, S1, E.mono S s1, r, p1⟩

/-- a new plain object -/
theorem Po.newT {Q : VK} {ds : List D} {vs : List V} {p : PySem.Addr} (S : Sto X.toGx H al M) (r : Reps X.K H al M ds vs) (hp : H p = none) (h : Po X (rE X) W σ H al M Q (.ok (.tup ds) M)) : Q (.ref p) (upd H p (.tup vs)) := by
  refine h al _ _ (Stp.cold S hp) (S.cold hp) ?_
  show Rep _ _ _ _ _ _
  rw [Rep]
  exact ⟨p, vs, rfl, upd_same, Reps.mono S (Stp.cold S hp) _ _ r⟩
theorem Po.newC {Q : VK} {ds : List D} {vs : List V} {p : PySem.Addr} (S : Sto X.toGx H al M) (r : Reps X.K H al M ds vs) (hp : H p = none) (h : Po X (rE X) W σ H al M Q (.ok (.lst ds) M)) : Q (.ref p) (upd H p (.lst vs)) := by
  refine h al _ _ (Stp.cold S hp) (S.cold hp) ?_
  show Rep _ _ _ _ _ _
  rw [Rep]
  exact ⟨p, vs, rfl, upd_same, S.fresh_nothot hp, Reps.mono S (Stp.cold S hp) _ _ r⟩
theorem Po.newH {Q : VK} {ds : List D} {vs : List V} {p : PySem.Addr} (S : Sto X.toGx H al M) (r : Reps X.K H al M ds vs) (hp : H p = none) (h : Po X (rE X) W σ H al M Q (.ok (.ptr M.length) (M ++ [.lst ds]))) : Q (.ref p) (upd H p (.lst vs)) := by
  have s : Stp H al M (upd H p (.lst vs)) (al.add p) (M ++ [.lst ds]) := Stp.alloc S hp
  refine h _ _ _ s (S.alloc hp ⟨vs, upd_same, Reps.mono S s _ _ r⟩) ?_
  show Rep _ _ _ _ _ _
  rw [Rep]
  exact ⟨p, rfl, by rw [← S.len]; simp [Am.add]⟩
theorem Po.newL {Q : VK} {hot : Bool} {ds : List D} {vs : List V} {p : PySem.Addr} (S : Sto X.toGx H al M) (r : Reps X.K H al M ds vs) (hp : H p = none) (h : Po X (rE X) W σ H al M Q (newL hot ds M)) : Q (.ref p) (upd H p (.lst vs)) := by
  cases hot with
  | true => exact Po.newH S r hp h
  | false => exact Po.newC S r hp h

/-- a list, plain or of the store, by its value -/
theorem listOf_at {d : D} {v : V} {ds : List D} (S : Sto X.toGx H al M) (r : Rep X.K H al M d v) (h : listOf M d = some ds) : ∃ a vs, v = .ref a ∧ H a = some (.lst vs) ∧ Reps X.K H al M ds vs := by
  cases d with
  | lst xs =>
    simp only [listOf, Option.some.injEq] at h
    subst h
    rw [Rep] at r
    obtain ⟨a, vs, e, h1, _, h3⟩ := r
    exact ⟨a, vs, e, h1, h3⟩
  | ptr n =>
    rw [Rep] at r
    obtain ⟨a, e, h1⟩ := r
    simp only [listOf] at h
    split at h
    · rename_i xs e2
      cases h
      obtain ⟨vs, h2, h3⟩ := S.at_ n _ a e2 h1
      exact ⟨a, vs, e, h2, h3⟩
    · cases h
  | _ => simp [listOf] at h
theorem seqOf_at {d : D} {v : V} {ds : List D} (S : Sto X.toGx H al M) (r : Rep X.K H al M d v) (h : seqOf M d = some ds) : ∃ a vs, v = .ref a ∧ (SqL X.K H a vs ∨ SqT X.K H a vs) ∧ Reps X.K H al M ds vs := by
  cases d with
  | lst xs =>
    obtain ⟨a, vs, e, h1, h2⟩ := listOf_at S r (ds := ds) (by simpa [seqOf, listOf] using h)
    exact ⟨a, vs, e, .inl (SqL.of h1), h2⟩
  | tup xs =>
    simp only [seqOf, Option.some.injEq] at h
    subst h
    rw [Rep] at r
    obtain ⟨a, vs, e, h1, h3⟩ := r
    exact ⟨a, vs, e, .inr (SqT.of h1), h3⟩
  | scr ns =>
    simp only [seqOf, Option.some.injEq] at h
    subst h
    rw [Rep] at r
    obtain ⟨a, e, h1⟩ := r
    exact ⟨a, _, e, .inl h1.sq, Reps.of_ints ns⟩
  | ptr n =>
    obtain ⟨a, vs, e, h1, h2⟩ := listOf_at S r (ds := ds) (by simpa [seqOf, listOf] using h)
    exact ⟨a, vs, e, .inl (SqL.of h1), h2⟩
  | _ => simp [seqOf] at h
theorem intsOf_eq : ∀ {ds : List D} {ns : List Int}, intsOf ds = some ns → ds = ns.map D.int
  | [], ns, h => by simp at h; rw [h]; rfl
  | .int i :: r, ns, h => by
    rw [intsOf_cons] at h
    cases q : intsOf r with
    | none => rw [q] at h; cases h
    | some ms =>
      rw [q] at h
      cases h
      rw [intsOf_eq q]; rfl
  | .non :: _, _, h => by simp [intsOf] at h
  | .bl _ :: _, _, h => by simp [intsOf] at h
  | .str _ :: _, _, h => by simp [intsOf] at h
  | .tup _ :: _, _, h => by simp [intsOf] at h
  | .lst _ :: _, _, h => by simp [intsOf] at h
  | .scr _ :: _, _, h => by simp [intsOf] at h
  | .ptr _ :: _, _, h => by simp [intsOf] at h
theorem boolsOf_eq : ∀ {ds : List D} {ns : List Bool}, boolsOf ds = some ns → ds = ns.map D.bl
  | [], ns, h => by simp [boolsOf] at h; rw [h]; rfl
  | .bl i :: r, ns, h => by
    rw [boolsOf] at h
    cases q : boolsOf r with
    | none => rw [q] at h; cases h
    | some ms =>
      rw [q] at h
      cases h
      rw [boolsOf_eq q]; rfl
  | .non :: _, _, h => by simp [boolsOf] at h
  | .int _ :: _, _, h => by simp [boolsOf] at h
  | .str _ :: _, _, h => by simp [boolsOf] at h
  | .tup _ :: _, _, h => by simp [boolsOf] at h
  | .lst _ :: _, _, h => by simp [boolsOf] at h
  | .scr _ :: _, _, h => by simp [boolsOf] at h
  | .ptr _ :: _, _, h => by simp [boolsOf] at h
theorem Reps.bools : ∀ {ns : List Bool} {vs : List V}, Reps X.K H al M (ns.map D.bl) vs → vs = ns.map V.bl
  | [], vs, h => by simpa [Reps] using h
  | n :: ns, vs, h => by
    rw [List.map_cons, Reps] at h
    obtain ⟨v, r, e, h1, h2⟩ := h
    rw [Rep] at h1
    rw [e, h1, Reps.bools h2, List.map_cons]

def astB : Bop → PySem.Operator
  | .add => .Add | .sub => .Sub | .mul => .Mult | .fdiv => .FloorDiv | .mod => .Mod | .pow => .Pow | .band => .BitAnd | .bor => .BitOr | .bxor => .BitXor | .shl => .LShift | .shr => .RShift
/-- what the layer's rules of an operator ask, all together -/
def rB (K : PySem.W.Frag) : Bop → R2
  | .add => fun x y H Q => L2.rI0 (fun i j => .int (i + j)) x y H Q ∨ (∃ i j, x = .str i ∧ y = .str j ∧ i.length + j.length ≤ PySem.sizeLine ∧ Q (.str (i ++ j)) H) ∨ L2.rCatA K x y H Q ∨ L2.rCat x y H Q
  | .sub => L2.rI0 fun i j => .int (i - j)
  | .mul => fun x y H Q => L2.rI L2.CMul (fun i j => .int (i * j)) x y H Q ∨ L2.rRep x y H Q
  | .fdiv => L2.rI L2.CDiv fun i j => .int (i / j)
  | .mod => L2.rI (fun _ j => 0 < j) fun i j => .int (i % j)
  | .pow => L2.rI L2.CPow fun i j => .int (i ^ j.toNat)
  | .shl => L2.rI L2.CPow fun i j => .int (i * 2 ^ j.toNat)
  | .shr => L2.rI (fun _ j => 0 ≤ j) fun i j => .int (i / 2 ^ j.toNat)
  | .band => L2.rI0 fun i j => .int (PySem.Builtin.bitAnd i j)
  | .bor => L2.rI0 fun i j => .int (PySem.Builtin.bitOr i j)
  | .bxor => L2.rI0 fun i j => .int (PySem.Builtin.bitXor i j)
theorem op_rB {cx : L2.Cx} : ∀ o : Bop, L2.OpR cx (PySem.binaryOp (astB o)) (rB cx.K o)
  | .add => L2.op_add.or (L2.op_add_str.or (L2.op_catA.or L2.op_cat))
  | .sub => L2.op_sub
  | .mul => L2.op_mul.or L2.op_rep
  | .fdiv => L2.op_fdiv
  | .mod => L2.op_mod
  | .pow => L2.op_pow
  | .shl => L2.op_shl
  | .shr => L2.op_shr
  | .band => L2.op_and
  | .bor => L2.op_or
  | .bxor => L2.op_xor
theorem rep_int {i : Int} {v : V} (r : Rep X.K H al M (.int i) v) : v = .int i := by rw [Rep] at r; exact r
theorem rep_str {i : Str} {v : V} (r : Rep X.K H al M (.str i) v) : v = .str i := by rw [Rep] at r; exact r
theorem rep_bl {i : Bool} {v : V} (r : Rep X.K H al M (.bl i) v) : v = .bl i := by rw [Rep] at r; exact r
theorem rep_non {v : V} (r : Rep X.K H al M .non v) : v = .non := by rw [Rep] at r; exact r
theorem int_rep {i : Int} : rE X H al M (.int i) (.int i) := by show Rep _ _ _ _ _ _; rw [Rep]
theorem str_rep {i : Str} : rE X H al M (.str i) (.str i) := by show Rep _ _ _ _ _ _; rw [Rep]
theorem bl_rep {i : Bool} : rE X H al M (.bl i) (.bl i) := by show Rep _ _ _ _ _ _; rw [Rep]
theorem non_rep : rE X H al M .non .non := by show Rep _ _ _ _ _ _; rw [Rep]
theorem tup_at {v : V} {ds : List D} (r : Rep X.K H al M (.tup ds) v) : ∃ a vs, v = .ref a ∧ H a = some (.tup vs) ∧ Reps X.K H al M ds vs := by rw [Rep] at r; exact r

theorem cat_sem {x y : D} {u v : V} {Q : VK} (S : Sto X.toGx H al M) (rx : Rep X.K H al M x u) (ry : Rep X.K H al M y v)
    (p : Po X (rE X) W σ H al M Q (match listOf M x, listOf M y with | some xs, some ys => if xs.length + ys.length ≤ big then .ok (.lst (xs ++ ys)) M else .stuck | _, _ => .stuck)) : L2.rCat u v H Q := by
  split at p
  · rename_i xs ys e1 e2
    split at p
    · rename_i hz
      obtain ⟨a, vs, rfl, h1, q1⟩ := listOf_at S rx e1
      obtain ⟨b, ws, rfl, h2, q2⟩ := listOf_at S ry e2
      exact ⟨a, b, vs, ws, rfl, rfl, h1, h2, by rw [q1.length, q2.length]; exact hz, fun pp hp => Po.newC S (q1.append q2) hp p⟩
    · exact p.elim
  · exact p.elim
theorem rep_sem {x : D} {k : Int} {u : V} {Q : VK} (S : Sto X.toGx H al M) (rx : Rep X.K H al M x u)
    (p : Po X (rE X) W σ H al M Q (match listOf M x with | some xs => if -16777216 ≤ k ∧ k ≤ 16777216 ∧ xs.length * k.toNat ≤ big then .ok (.lst (List.replicate k.toNat xs).flatten) M else .stuck | none => .stuck)) : L2.rRep u (.int k) H Q := by
  split at p
  · rename_i xs e1
    split at p
    · rename_i hz
      obtain ⟨a, vs, rfl, h1, q1⟩ := listOf_at S rx e1
      exact ⟨a, k, vs, rfl, rfl, h1, by omega, by omega, by rw [q1.length]; exact hz.2.2, fun pp hp => Po.newC S (Reps.flatten _ q1) hp p⟩
    · exact p.elim
  · exact p.elim
theorem bop_sem {o : Bop} {x y : D} {u v : V} {Q : VK} (S : Sto X.toGx H al M) (rx : Rep X.K H al M x u) (ry : Rep X.K H al M y v) (p : Po X (rE X) W σ H al M Q (binop o x y M)) : rB X.K o u v H Q := by
  unfold binop at p
  split at p
  · cases rep_int rx; cases rep_int ry; exact .inl ⟨_, _, rfl, rfl, p.ok S int_rep⟩
  · cases rep_int rx; cases rep_int ry; exact ⟨_, _, rfl, rfl, p.ok S int_rep⟩
  · split at p
    · cases rep_int rx; cases rep_int ry; exact .inl ⟨_, _, rfl, rfl, (by unfold L2.CMul; omega), p.ok S int_rep⟩
    · exact p.elim
  · split at p
    · cases rep_int rx; cases rep_int ry; exact ⟨_, _, rfl, rfl, ‹_›, p.ok S int_rep⟩
    · exact p.elim
  · split at p
    · cases rep_int rx; cases rep_int ry; exact ⟨_, _, rfl, rfl, ‹_›, p.ok S int_rep⟩
    · exact p.elim
  · split at p
    · cases rep_int rx; cases rep_int ry; exact ⟨_, _, rfl, rfl, (by unfold L2.CPow; omega), p.ok S int_rep⟩
    · exact p.elim
  · split at p
    · cases rep_int rx; cases rep_int ry; exact ⟨_, _, rfl, rfl, (by unfold L2.CPow; omega), p.ok S int_rep⟩
    · exact p.elim
  · split at p
    · cases rep_int rx; cases rep_int ry; exact ⟨_, _, rfl, rfl, ‹_›, p.ok S int_rep⟩
    · exact p.elim
  · cases rep_int rx; cases rep_int ry; exact ⟨_, _, rfl, rfl, p.ok S int_rep⟩
  · cases rep_int rx; cases rep_int ry; exact ⟨_, _, rfl, rfl, p.ok S int_rep⟩
  · cases rep_int rx; cases rep_int ry; exact ⟨_, _, rfl, rfl, p.ok S int_rep⟩
  · split at p
    · cases rep_str rx; cases rep_str ry; exact .inr (.inl ⟨_, _, rfl, rfl, ‹_›, p.ok S str_rep⟩)
    · exact p.elim
  · split at p
    · rename_i xs ys hz
      obtain ⟨a, vs, rfl, h1, q1⟩ := tup_at rx
      obtain ⟨b, ws, rfl, h2, q2⟩ := tup_at ry
      have l1 := q1.length
      have l2 := q2.length
      refine .inr (.inr (.inl ⟨a, b, vs, ws, rfl, rfl, SqT.of h1, SqT.of h2, by rw [l1, l2]; exact hz, fun e => ?_, fun e e' => ?_, fun e e' pp hp => Po.newT S (q1.append q2) hp p⟩))
      · subst e
        have : xs = [] := List.eq_nil_of_length_eq_zero (by simpa using l1.symm)
        subst this
        exact p.ok S ry
      · subst e'
        have : ys = [] := List.eq_nil_of_length_eq_zero (by simpa using l2.symm)
        subst this
        rw [List.append_nil] at p
        exact p.ok S rx
    · exact p.elim
  · exact .inr (.inr (.inr (cat_sem S rx ry p)))
  · cases rep_int ry; exact .inr (rep_sem S rx p)
  · exact p.elim
end
end G

/-! GDic -/
set_option maxRecDepth 100000
set_option maxHeartbeats 4000000
namespace G
open PySem PySem.Spec PyProof.Rows L2
theorem eqd_kD (a b : Key) : eqd (kD a) (kD b) = decide (a = b) := by
  rcases a with i | x <;> rcases b with j | y
  · show (i == j) = _
    by_cases h : i = j <;> simp [h]
  · show false = _
    simp
  · show false = _
    simp
  · show (x == y) = _
    by_cases h : x = y <;> simp [h]
theorem eqds_kD : ∀ (a b : List Key), eqds (a.map kD) (b.map kD) = decide (a = b)
  | [], [] => rfl
  | [], _ :: _ => rfl
  | _ :: _, [] => rfl
  | x :: a, y :: b => by
    rw [List.map_cons, List.map_cons, eqds, eqd_kD, eqds_kD a b]
    by_cases h : x = y <;> by_cases h2 : a = b <;> simp [h, h2]
theorem eqd_tD (a b : List Key) : eqd (tD a) (tD b) = decide (a = b) := by
  unfold tD; rw [eqd]; exact eqds_kD a b
theorem isKey1_ex {d : D} (h : isKey1 d = true) : ∃ k, d = kD k := by
  cases d with
  | int i => exact ⟨.inl i, rfl⟩
  | str x => exact ⟨.inr x, rfl⟩
  | _ => cases h
theorem isKey1s_ex : ∀ {ds : List D}, ds.all isKey1 = true → ∃ ks : List Key, ds = ks.map kD
  | [], _ => ⟨[], rfl⟩
  | d :: ds, h => by
    rw [List.all_cons, Bool.and_eq_true] at h
    obtain ⟨k, rfl⟩ := isKey1_ex h.1
    obtain ⟨ks, rfl⟩ := isKey1s_ex h.2
    exact ⟨k :: ks, rfl⟩
section
variable {κ : Type} [DecidableEq κ] {kf : κ → D} {K : PySem.W.Frag} {H : Hp} {al : Am} {M : Store}
theorem Dr.length : ∀ {ds : List (D × D)} {xs : List (κ × V)}, Dr kf K H al M ds xs → xs.length = ds.length
  | [], xs, h => by rw [Dr] at h; subst h; rfl
  | p :: ds, xs, h => by
    obtain ⟨k, v, r, rfl, _, _, h2⟩ := h
    rw [List.length_cons, List.length_cons, Dr.length h2]
theorem Dr.val (hk : ∀ a b, eqd (kf a) (kf b) = decide (a = b)) (k : κ) : ∀ {ds : List (D × D)} {xs : List (κ × V)}, Dr kf K H al M ds xs → (∀ d, dget ds (kf k) = some d → ∃ v, valV xs k = some v ∧ Rep K H al M d v) ∧ (dget ds (kf k) = none → valV xs k = none)
  | [], xs, h => by rw [Dr] at h; subst h; exact ⟨fun d e => by simp [dget] at e, fun _ => rfl⟩
  | p :: ds, xs, h => by
    obtain ⟨k', v, r, rfl, e1, rv, h2⟩ := h
    have ih := Dr.val hk k h2
    have e : dget (p :: ds) (kf k) = if k' = k then some p.2 else dget ds (kf k) := by
      unfold dget
      rw [List.find?_cons, e1, hk]
      by_cases q : k' = k <;> simp [q]
    rw [e]
    by_cases q : k' = k
    · rw [if_pos q, valV_pos (show ((k', v) : κ × V).1 = k from q)]
      exact ⟨fun d e => by cases e; exact ⟨v, rfl, rv⟩, fun e => by cases e⟩
    · rw [if_neg q, valV_neg (show ¬ ((k', v) : κ × V).1 = k from q)]
      exact ih
theorem Dr.any (hk : ∀ a b, eqd (kf a) (kf b) = decide (a = b)) (k : κ) : ∀ {ds : List (D × D)} {xs : List (κ × V)}, Dr kf K H al M ds xs → (ds.any fun p => eqd p.1 (kf k)) = xs.any fun kv => decide (kv.1 = k)
  | [], xs, h => by rw [Dr] at h; subst h; rfl
  | p :: ds, xs, h => by
    obtain ⟨k', v, r, rfl, e1, rv, h2⟩ := h
    rw [List.any_cons, List.any_cons, Dr.any hk k h2, e1, hk]
theorem Dr.repl (hk : ∀ a b, eqd (kf a) (kf b) = decide (a = b)) (k : κ) {d : D} {v : V} (rv : Rep K H al M d v) : ∀ {ds : List (D × D)} {xs : List (κ × V)}, Dr kf K H al M ds xs →
    Dr kf K H al M (ds.map fun p => if eqd p.1 (kf k) then (p.1, d) else p) (xs.map fun kv => if kv.1 = k then (kv.1, v) else kv)
  | [], xs, h => by rw [Dr] at h; subst h; rfl
  | p :: ds, xs, h => by
    obtain ⟨k', w, r, rfl, e1, rw', h2⟩ := h
    rw [List.map_cons, List.map_cons, e1, hk]
    by_cases q : k' = k
    · simp only [q, decide_true, if_true]
      exact ⟨k, v, _, rfl, rfl, rv, Dr.repl hk k rv h2⟩
    · simp only [q, decide_false, Bool.false_eq_true, if_false]
      exact ⟨k', w, _, rfl, e1, rw', Dr.repl hk k rv h2⟩
theorem Dr.app : ∀ {ds es : List (D × D)} {xs ys : List (κ × V)}, Dr kf K H al M ds xs → Dr kf K H al M es ys → Dr kf K H al M (ds ++ es) (xs ++ ys)
  | [], es, xs, ys, h, t => by rw [Dr] at h; subst h; exact t
  | p :: ds, es, xs, ys, h, t => by
    obtain ⟨k', w, r, rfl, e1, rw', h2⟩ := h
    exact ⟨k', w, _, rfl, e1, rw', Dr.app h2 t⟩
theorem Dr.put (hk : ∀ a b, eqd (kf a) (kf b) = decide (a = b)) (k : κ) {d : D} {v : V} (rv : Rep K H al M d v) {ds : List (D × D)} {xs : List (κ × V)} (h : Dr kf K H al M ds xs) : Dr kf K H al M (dput ds (kf k) d) (putK xs k v) := by
  unfold dput putK
  rw [h.any hk k]
  split
  · exact h.repl hk k rv
  · exact h.app ⟨k, v, [], rfl, rfl, rv, rfl⟩
end
section
variable {X : Gy} {W : WX} {σ : L2.St} {H : Hp} {al : Am} {M : Store}
theorem kV_rep {k : Key} {v : V} (r : Rep X.K H al M (kD k) v) : v = kV k := by
  rcases k with i | x
  · exact rep_int r
  · exact rep_str r
theorem kVs_rep : ∀ {ks : List Key} {vs : List V}, Reps X.K H al M (ks.map kD) vs → vs = ks.map kV
  | [], vs, r => by rw [List.map_nil, Reps] at r; exact r
  | k :: ks, vs, r => by
    rw [List.map_cons, Reps] at r
    obtain ⟨v, r', e, h1, h2⟩ := r
    rw [e, kV_rep h1, kVs_rep h2]; rfl
/-- a dict of the store, by its value: known, perhaps walked by a loop -/
theorem dic_at {x : D} {u : V} {kv : Bool × List (D × D)} (S : Sto X.toGx H al M) (rx : Rep X.K H al M x u) (e : dicOf M x = some kv) : ∃ a w, u = .ref a ∧ Rd H a w ∧ Dcr kv.1 X.K H al M kv.2 w := by
  cases x with
  | ptr n =>
    rw [Rep] at rx
    obtain ⟨a, rfl, ha⟩ := rx
    simp only [dicOf] at e
    split at e
    · rename_i tk kvs e1
      cases e
      obtain ⟨w, h1, h2⟩ := S.at_ n _ a e1 ha
      exact ⟨a, w, rfl, .inl h1, h2⟩
    · rename_i tk kvs e1
      cases e
      obtain ⟨o, w, h1, h2⟩ := S.at_ n _ a e1 ha
      exact ⟨a, w, rfl, .inr ⟨o, h1⟩, h2⟩
    · cases e
  | _ => simp [dicOf] at e
theorem dget_at {x y : D} {u v : V} {kv : Bool × List (D × D)} (S : Sto X.toGx H al M) (rx : Rep X.K H al M x u) (ry : Rep X.K H al M y v) (e : dicOf M x = some kv) (hk : isKey kv.1 y = true) :
    ∃ a o, u = .ref a ∧ DGet H a v o ∧ (∀ d, dget kv.2 y = some d → ∃ w, o = some w ∧ Rep X.K H al M d w) ∧ (dget kv.2 y = none → o = none) := by
  obtain ⟨a, w, rfl, hr, hc⟩ := dic_at S rx e
  obtain ⟨tk, kvs⟩ := kv
  cases tk with
  | false =>
    obtain ⟨xs, rfl, r⟩ := hc
    obtain ⟨k, rfl⟩ := isKey1_ex hk
    obtain rfl := kV_rep ry
    obtain ⟨h1, h2⟩ := r.val eqd_kD k
    exact ⟨a, _, rfl, .inl ⟨xs, k, hr, rfl, rfl⟩, h1, h2⟩
  | true =>
    obtain ⟨xs, rfl, r⟩ := hc
    cases y with
    | tup ds =>
      obtain ⟨ks, rfl⟩ := isKey1s_ex hk
      obtain ⟨b, vs, rfl, hb, rs⟩ := tup_at ry
      obtain rfl := kVs_rep rs
      obtain ⟨h1, h2⟩ := r.val eqd_tD ks
      exact ⟨a, _, rfl, .inr ⟨xs, ks, b, hr, rfl, hb, rfl⟩, h1, h2⟩
    | _ => cases hk
end
/-- o[i] of a dict, as a rule of subscripts -/
def rIxD : R2 := fun x y H Q => ∃ a v, x = .ref a ∧ DGet H a y (some v) ∧ Q v H
theorem ix_dict {X : Cx} (hu : X.A.units + 1 < cLine) : IxR X rIxD := by
  intro value slice pins s σ H x y v u Q I rx ry h hs
  obtain ⟨a, w, rfl, g, q⟩ := h
  cases rx
  unfold subscriptTail
  refine wpAny_bind ?_
  rw [getitemInPython_of_ne (dict_typeIs I g).not_modules]
  refine wpAny_bind (wpAny_specialOf (dict_typeIs I g) PySem.F.slot_dict_getitem.lookup ?_)
  have fin : wpAny (model X.prog X.w) X.A (subscripted slice false (.ref a) u) (fun r s₃ => wpAny (model X.prog X.w) X.A (letTemporaryGo value (.ref a) r >>= fun _ => pure r) (EP X pins σ Q) X.xe s₃) X.xe s := by
    rw [hs]
    exact wpAny_operating (d_getItem hu I g ry fun w' s3 I3 rw' => wpAny_bind (wpAny_letTemporaryGo (wpAny_pure ⟨w, H, I3, rw', q⟩)))
  first
    | exact wpAny_pure (wpAny_bind fin)
    | exact wpAny_bind (wpAny_pure (wpAny_bind fin))
    | exact wpAny_bind fin
/-- y in d, y not in d -/
def rInD (neg : Bool) : R2 := fun y x H Q => ∃ a o, x = .ref a ∧ DGet H a y o ∧ Q (.bl (if neg = true then !o.isSome else o.isSome)) H
theorem op_in_dict {X : Cx} (hu : X.A.units + 1 < cLine) : OpR X (compareOp .In) (rInD false) := by
  intro pins s σ H x y v u Q I rx ry h
  obtain ⟨a, o, rfl, g, q⟩ := h
  cases ry
  exact d_in hu I g rx fun s' I' => ⟨.bl _, H, I', rfl, q⟩
theorem op_notIn_dict {X : Cx} (hu : X.A.units + 1 < cLine) : OpR X (compareOp .NotIn) (rInD true) := by
  intro pins s σ H x y v u Q I rx ry h
  obtain ⟨a, o, rfl, g, q⟩ := h
  cases ry
  exact d_notIn hu I g rx fun s' I' => ⟨.bl _, H, I', rfl, q⟩
section
variable {X : Gy} {W : WX} {σ : L2.St} {H : Hp} {al : Am} {M : Store}
theorem dicN_at {x : D} {u : V} {kv : Bool × List (D × D)} (S : Sto X.toGx H al M) (rx : Rep X.K H al M x u) (e : dicN M x = some kv) : ∃ a w, u = .ref a ∧ H a = some w ∧ Dcr kv.1 X.K H al M kv.2 w := by
  cases x with
  | ptr n =>
    rw [Rep] at rx
    obtain ⟨a, rfl, ha⟩ := rx
    simp only [dicN] at e
    split at e
    · rename_i tk kvs e1
      cases e
      obtain ⟨w, h1, h2⟩ := S.at_ n _ a e1 ha
      exact ⟨a, w, rfl, h1, h2⟩
    · cases e
  | _ => simp [dicN] at e
theorem kD_reps {kvs : List (D × D)} {xs : List (Key × V)} (h : Dr kD X.K H al M kvs xs) : Reps X.K H al M (kvs.map (·.1)) (xs.map fun kv => kV kv.1) := by
  induction kvs generalizing xs with
  | nil => rw [Dr] at h; subst h; exact Reps.nil
  | cons p kvs ih =>
    obtain ⟨k, v, r, rfl, e, _, h2⟩ := h
    rw [List.map_cons, List.map_cons, e]
    refine .cons ?_ (ih h2)
    rcases k with i | x
    · exact int_rep (X := X)
    · exact str_rep (X := X)
theorem kDs_reps : ∀ (ks : List Key), Reps X.K H al M (ks.map kD) (ks.map kV)
  | [] => Reps.nil
  | k :: ks => by
    rw [List.map_cons, List.map_cons]
    refine .cons ?_ (kDs_reps ks)
    rcases k with i | x
    · exact int_rep (X := X)
    · exact str_rep (X := X)
theorem tD_reps {kvs : List (D × D)} {xs : List (List Key × V)} {bs : List Addr} (h : Dr tD X.K H al M kvs xs) (hb : IsKeys H xs bs) : Reps X.K H al M (kvs.map (·.1)) (bs.map V.ref) := by
  induction kvs generalizing xs bs with
  | nil =>
    rw [Dr] at h; subst h
    cases hb
    exact Reps.nil
  | cons p kvs ih =>
    obtain ⟨k, v, r, rfl, e, _, h2⟩ := h
    cases hb with
    | cons hb1 hb2 =>
      rw [List.map_cons, List.map_cons, e]
      refine .cons ?_ (ih h2 hb2)
      unfold tD
      rw [Rep]
      exact ⟨_, _, rfl, hb1, kDs_reps k⟩
end
def rLenD : List V → Hp → VK → Prop := fun xs H Q => (∃ a kvs, xs = [V.ref a] ∧ H a = some (.dK kvs) ∧ Q (.int ((kvs.length : Nat) : Int)) H) ∨ rLenT xs H Q
def rListB : List V → Hp → VK → Prop := fun xs H Q => rListD xs H Q ∨ ∃ d kvs, xs = [V.ref d] ∧ Rd H d (.dT kvs) ∧ ∀ p bs, H p = none → IsKeys H kvs bs → Q (.ref p) (upd H p (.lst (bs.map V.ref)))
theorem call_lenB {X : Cx} : CallR X (.builtin "len") rLenD := by
  intro pins s σ H xs us Q I r h
  rcases h with ⟨a, kvs, rfl, e, q⟩ | h
  · exact call_lenD pins s σ H _ us Q I r ⟨a, kvs, rfl, e, q⟩
  · exact call_len_dT pins s σ H _ us Q I r h
theorem call_listB {X : Cx} (hc : X.calm = true) : CallR X (.type "list") rListB := by
  intro pins s σ H xs us Q I r h
  rcases h with h | h
  · exact call_list_dK hc pins s σ H _ us Q I r h
  · exact call_list_dT hc pins s σ H _ us Q I r h
theorem pairsOf_eq : ∀ {ds : List D} {ps : List (Int × Int)}, pairsOf ds = some ps → ds = ps.map pairD
  | [], ps, h => by simp [pairsOf] at h; rw [h]; rfl
  | d :: r, ps, h => by
    unfold pairsOf at h
    split at h
    · rename_i heq; cases heq
    · rename_i i j r' heq
      cases heq
      cases q : pairsOf r with
      | none => rw [q] at h; cases h
      | some ms =>
        rw [q] at h
        cases h
        rw [pairsOf_eq q]; rfl
    · cases h
def leP (a b : Int × Int) : Bool := decide (a.1 < b.1) || (decide (a.1 = b.1) && decide (a.2 ≤ b.2))
theorem sortP_perm (ps : List (Int × Int)) : (sortP ps).Perm ps := List.mergeSort_perm _ _
theorem leP_iff {a b : Int × Int} : leP a b = true ↔ a.1 < b.1 ∨ (a.1 = b.1 ∧ a.2 ≤ b.2) := by
  unfold leP; simp
theorem sortP_sorted (ps : List (Int × Int)) : (sortP ps).Pairwise fun a b => leP a b = true := by
  have := List.pairwise_mergeSort (le := leP) (fun a b c h1 h2 => by rw [leP_iff] at *; omega) (fun a b => by
    have h1 : leP a b = true ∨ leP b a = true := by rw [leP_iff, leP_iff]; omega
    rcases h1 with h | h <;> rw [h] <;> simp) ps
  exact this
theorem sortP_uniq {ps ps' : List (Int × Int)} (h : ps'.Perm ps) (hs : ps'.Pairwise fun a b => leP a b = true) : ps' = sortP ps :=
  (h.trans (sortP_perm ps).symm).eq_of_pairwise (fun a b _ _ h1 h2 => by
    rw [leP_iff] at h1 h2
    ext
    · omega
    · omega) hs (sortP_sorted ps)
section
variable {X : Gy} {W : WX} {σ : L2.St} {H : Hp} {al : Am} {M : Store}
theorem sortP_sem {hot : Bool} {ps : List (Int × Int)} {a : Addr} {vs : List V} {Q : VK} (S : Sto X.toGx H al M) (h1 : H a = some (.lst vs)) (h2 : Reps X.K H al M (ps.map pairD) vs) (p : Po X (G.rE X) W σ H al M Q (newL hot ((sortP ps).map pairD) M)) : rSortedPO X.K [.ref a] H Q := by
  -- each item by its place
  have each : ∀ (ps : List (Int × Int)) (vs : List V), Reps X.K H al M (ps.map pairD) vs → ∀ v ∈ vs, ∃ (t : Addr) (q : Int × Int), v = V.ref t ∧ H t = some (.tup [.int q.1, .int q.2]) ∧ q ∈ ps := by
    intro ps
    induction ps with
    | nil => intro vs h v hv; rw [List.map_nil, Reps] at h; subst h; cases hv
    | cons q ps ih =>
      intro vs h v hv
      rw [List.map_cons, Reps] at h
      obtain ⟨w, r, rfl, rw', h3⟩ := h
      rcases List.mem_cons.mp hv with rfl | hv
      · obtain ⟨b, ws, rfl, hb, rs⟩ := tup_at rw'
        have := Reps.ints (ns := [q.1, q.2]) rs
        subst this
        exact ⟨b, q, rfl, hb, List.mem_cons_self⟩
      · obtain ⟨t, q', e1, e2, e3⟩ := ih r h3 v hv
        exact ⟨t, q', e1, e2, List.mem_cons_of_mem _ e3⟩
  let k : V → Int × Int := fun v => match v with
    | .ref t => match H t with
      | some (.tup [.int i, .int j]) => (i, j)
      | _ => (0, 0)
    | _ => (0, 0)
  have hkv : ∀ t (q : Int × Int), H t = some (.tup [.int q.1, .int q.2]) → k (.ref t) = q := fun t q e => by simp only [k, e]
  have hkm : ∀ (ps : List (Int × Int)) (vs : List V), Reps X.K H al M (ps.map pairD) vs → vs.map k = ps := by
    intro ps
    induction ps with
    | nil => intro vs h; rw [List.map_nil, Reps] at h; subst h; rfl
    | cons q ps ih =>
      intro vs h
      rw [List.map_cons, Reps] at h
      obtain ⟨w, r, rfl, rw', h3⟩ := h
      obtain ⟨b, ws, rfl, hb, rs⟩ := tup_at rw'
      have := Reps.ints (ns := [q.1, q.2]) rs
      subst this
      rw [List.map_cons, ih r h3, hkv b q hb]
  refine ⟨a, vs, k, rfl, SqL.of h1, fun v hv => ?_, fun ys pp hs hb hn => ?_⟩
  · obtain ⟨t, q, rfl, e2, _⟩ := each ps vs h2 v hv
    exact ⟨t, rfl, by rw [hkv t q e2]; exact e2⟩
  · have hy : ys.map k = sortP ps := by
      refine sortP_uniq ?_ ?_
      · rw [← hkm ps vs h2]; exact hb.perm.map k
      · rw [List.pairwise_map]
        refine hs.imp fun {x y} h => ?_
        have h' : SrtO.lexB (k y) (k x) = false := h
        rw [SrtO.lexB_no] at h'
        rw [leP_iff]; omega
    have hr : ∀ (ys : List V), (∀ y ∈ ys, ∃ (t : Addr) (q : Int × Int), y = V.ref t ∧ H t = some (.tup [.int q.1, .int q.2])) → Reps X.K H al M ((ys.map k).map pairD) ys := by
      intro ys
      induction ys with
      | nil => intro _; exact Reps.nil
      | cons y ys ih =>
        intro h
        obtain ⟨t, q, rfl, e⟩ := h y List.mem_cons_self
        rw [List.map_cons, List.map_cons, hkv t q e]
        refine .cons ?_ (ih fun z hz => h z (List.mem_cons_of_mem _ hz))
        unfold pairD
        rw [Rep]
        exact ⟨t, _, rfl, e, Reps.of_ints [q.1, q.2]⟩
    have hall := hr ys fun y hy' => by
      obtain ⟨t, q, e1, e2, _⟩ := each ps vs h2 y (hb.perm.mem_iff.mp hy')
      exact ⟨t, q, e1, e2⟩
    rw [hy] at hall
    exact Po.newL S hall hn p
end
end G

/-! GCmp -/
set_option maxRecDepth 100000
set_option maxHeartbeats 4000000
namespace G
open PySem (Str PyData)
open L2 (V HO Hp upd upd_same upd_ne SqL SqT Rd WX VK TE TT TA TO R2)

mutual
def toPy : D → PyData
  | .non => .none
  | .bl b => .bool b
  | .int i => .int i
  | .str x => .str x
  | .tup xs => .tuple (toPys xs)
  | .lst xs => .list (toPys xs)
  | .scr _ => .none
  | .ptr _ => .none
def toPys : List D → List PyData
  | [] => []
  | x :: xs => toPy x :: toPys xs
end
section
variable {X : Gy} {W : WX} {σ : L2.St} {H : Hp} {al : Am} {M : Store}
theorem okd_dp : ∀ (k : Nat) (d : D) (v : V), okd k d = true → Rep X.K H al M d v → L2.Dp X.K H v (toPy d) := by
  intro k
  induction k with
  | zero =>
    intro d v h r
    cases d with
    | non => cases rep_non r; rw [toPy]; exact .non
    | bl b => cases rep_bl r; rw [toPy]; exact .bl b
    | int i => cases rep_int r; rw [toPy]; exact .int i
    | str x => cases rep_str r; rw [toPy]; exact .str x
    | _ => simp [okd] at h
  | succ k ih =>
    have all : ∀ (xs : List D) (vs : List V), xs.all (okd k) = true → Reps X.K H al M xs vs → L2.DpAll X.K H vs (toPys xs) := by
      intro xs
      induction xs with
      | nil => intro vs _ r; rw [Reps] at r; subst r; rw [toPys]; exact .nil
      | cons x xs ihx =>
        intro vs h r
        rw [List.all_cons, Bool.and_eq_true] at h
        rw [Reps] at r
        obtain ⟨v, r', e, h1, h2⟩ := r
        subst e
        rw [toPys]
        exact .cons (ih x v h.1 h1) (ihx r' h.2 h2)
    intro d v h r
    cases d with
    | non => cases rep_non r; rw [toPy]; exact .non
    | bl b => cases rep_bl r; rw [toPy]; exact .bl b
    | int i => cases rep_int r; rw [toPy]; exact .int i
    | str x => cases rep_str r; rw [toPy]; exact .str x
    | tup xs =>
      obtain ⟨a, vs, rfl, h1, h2⟩ := tup_at r
      rw [toPy]
      exact .tup (SqT.of h1) (all xs vs (by simpa [okd] using h) h2)
    | lst xs =>
      rw [Rep] at r
      obtain ⟨a, vs, rfl, h1, _, h2⟩ := r
      rw [toPy]
      exact .lst (SqL.of h1) (all xs vs (by simpa [okd] using h) h2)
    | _ => simp [okd] at h
theorem okd_shape : ∀ (k : Nat) (d : D), okd k d = true → (toPy d).canLay0 = true ∧ (toPy d).depth ≤ k := by
  intro k
  induction k with
  | zero =>
    intro d h
    cases d with
    | non => simp [toPy, PyData.canLay0, PyData.depth]
    | bl b => simp [toPy, PyData.canLay0, PyData.depth]
    | int i => simp [toPy, PyData.canLay0, PyData.depth]
    | str x => simp [okd] at h; simp [toPy, PyData.canLay0, PyData.depth, h]
    | _ => simp [okd] at h
  | succ k ih =>
    have all : ∀ (xs : List D), xs.all (okd k) = true → PyData.canLayAll0 (toPys xs) = true ∧ PyData.depthAll (toPys xs) ≤ k := by
      intro xs
      induction xs with
      | nil => intro _; simp [toPys, PyData.canLayAll0, PyData.depthAll]
      | cons x xs ihx =>
        intro h
        rw [List.all_cons, Bool.and_eq_true] at h
        have h1 := ih x h.1
        have h2 := ihx h.2
        rw [toPys, PyData.canLayAll0, PyData.depthAll, h1.1, h2.1]
        exact ⟨rfl, Nat.max_le.mpr ⟨h1.2, h2.2⟩⟩
    intro d h
    cases d with
    | non => simp [toPy, PyData.canLay0, PyData.depth]
    | bl b => simp [toPy, PyData.canLay0, PyData.depth]
    | int i => simp [toPy, PyData.canLay0, PyData.depth]
    | str x => simp [okd] at h; simp [toPy, PyData.canLay0, PyData.depth, h]
    | tup xs =>
      have h2 := all xs (by simpa [okd] using h)
      rw [toPy, PyData.canLay0, PyData.depth]
      exact ⟨h2.1, Nat.succ_le_succ h2.2⟩
    | lst xs =>
      have h2 := all xs (by simpa [okd] using h)
      rw [toPy, PyData.canLay0, PyData.depth]
      exact ⟨h2.1, Nat.succ_le_succ h2.2⟩
    | _ => simp [okd] at h
theorem shaped_of {d : D} (h : okd 12 d = true) : PySem.SeqAt.shaped (toPy d) = true := by
  obtain ⟨h1, h2⟩ := okd_shape 12 d h
  unfold PySem.SeqAt.shaped
  rw [h1, Bool.true_and, decide_eq_true_eq]
  omega
theorem eqd_eqv : ∀ (k : Nat) (d e : D), okd k d = true → okd k e = true → PyData.eqv (toPy d) (toPy e) = eqd d e := by
  intro k
  induction k with
  | zero =>
    intro d e h h'
    cases d <;> cases e <;> first
      | (simp [okd] at h; done)
      | (simp [okd] at h'; done)
      | simp [toPy, PyData.eqv, eqd]
  | succ k ih =>
    have all : ∀ (xs ys : List D), xs.all (okd k) = true → ys.all (okd k) = true → PyData.eqvAll (toPys xs) (toPys ys) = eqds xs ys := by
      intro xs
      induction xs with
      | nil => intro ys _ _; cases ys <;> simp [toPys, PyData.eqvAll, eqds]
      | cons x xs ihx =>
        intro ys h h'
        cases ys with
        | nil => simp [toPys, PyData.eqvAll, eqds]
        | cons y ys =>
          rw [List.all_cons, Bool.and_eq_true] at h h'
          rw [toPys, toPys, PyData.eqvAll, eqds, ih x y h.1 h'.1, ihx ys h.2 h'.2]
    intro d e h h'
    cases d <;> cases e <;> first
      | (simp [okd] at h; done)
      | (simp [okd] at h'; done)
      | (simp [toPy, PyData.eqv, eqd]; done)
      | (rw [toPy, toPy, PyData.eqv, eqd]; exact all _ _ (by simpa [okd] using h) (by simpa [okd] using h'))
theorem top_dp {d : D} {v : V} (S : Sto X.toGx H al M) (r : Rep X.K H al M d v) (h : okd 12 (top M d) = true) : L2.Dp X.K H v (toPy (top M d)) := by
  cases d with
  | ptr n =>
    rw [Rep] at r
    obtain ⟨a, rfl, h1⟩ := r
    simp only [top] at h ⊢
    split at h
    · rename_i xs e
      obtain ⟨vs, h2, h3⟩ := S.at_ n _ a e h1
      -- its items are plain
      rw [toPy]
      refine .lst (SqL.of h2) ?_
      have all : ∀ (xs : List D) (vs : List V), xs.all (okd 11) = true → Reps X.K H al M xs vs → L2.DpAll X.K H vs (toPys xs) := by
        intro xs
        induction xs with
        | nil => intro vs _ r; rw [Reps] at r; subst r; rw [toPys]; exact .nil
        | cons x xs ihx =>
          intro vs h r
          rw [List.all_cons, Bool.and_eq_true] at h
          rw [Reps] at r
          obtain ⟨v, r', e, h1, h2⟩ := r
          subst e
          rw [toPys]
          exact .cons (okd_dp 11 x v h.1 h1) (ihx r' h.2 h2)
      exact all xs vs (by simpa [okd] using h) h3
    · simp [okd] at h
  | _ => exact okd_dp 12 _ v h r
theorem flat_rep {d : D} {v : V} (r : Rep X.K H al M d v) (h : flatd d = true) : L2.flatV v = true := by
  cases d with
  | non => cases rep_non r; rfl
  | bl b => cases rep_bl r; rfl
  | int i => cases rep_int r; rfl
  | str x => cases rep_str r; rfl
  | _ => simp [flatd] at h
theorem flats_rep : ∀ {ds : List D} {vs : List V}, Reps X.K H al M ds vs → ds.all flatd = true → vs.all L2.flatV = true
  | [], vs, r, _ => by rw [Reps] at r; subst r; rfl
  | d :: ds, vs, r, h => by
    rw [List.all_cons, Bool.and_eq_true] at h
    rw [Reps] at r
    obtain ⟨v, r', e, h1, h2⟩ := r
    subst e
    rw [List.all_cons, flat_rep h1 h.1, flats_rep h2 h.2]; rfl
theorem flateq_rep {d e : D} {v u : V} (r : Rep X.K H al M d v) (r' : Rep X.K H al M e u) (h : flatd d = true) (h' : flatd e = true) : L2.eqV v u = flateq d e := by
  cases d <;> first
    | (simp [flatd] at h; done)
    | (cases e <;> first
      | (simp [flatd] at h'; done)
      | (rw [Rep] at r; rw [Rep] at r'; subst r r'; rfl))
theorem inV_rep {x : D} {u : V} (rx : Rep X.K H al M x u) (hx : flatd x = true) : ∀ {ds : List D} {vs : List V}, Reps X.K H al M ds vs → ds.all flatd = true → L2.inV u vs = ds.any fun y => flateq y x
  | [], vs, r, _ => by rw [Reps] at r; subst r; rfl
  | d :: ds, vs, r, h => by
    rw [List.all_cons, Bool.and_eq_true] at h
    rw [Reps] at r
    obtain ⟨v, r', e, h1, h2⟩ := r
    subst e
    have ih := inV_rep rx hx h2 h.2
    unfold L2.inV at ih ⊢
    rw [List.any_cons, List.any_cons, flateq_rep h1 rx h.1 hx, ih]

def astC : Cop → PySem.CmpOp
  | .lt => .Lt | .le => .LtE | .gt => .Gt | .ge => .GtE | .eq => .Eq | .ne => .NotEq | .inn => .In | .nin => .NotIn
def rC (K : PySem.W.Frag) : Cop → R2
  | .lt => L2.rI0 fun i j => .bl (decide (i < j))
  | .le => L2.rI0 fun i j => .bl (decide (i ≤ j))
  | .gt => L2.rI0 fun i j => .bl (decide (j < i))
  | .ge => L2.rI0 fun i j => .bl (decide (j ≤ i))
  | .eq => L2.rEqD K
  | .ne => L2.rNeD K
  | .inn => fun x y H Q => L2.rIn K false x y H Q ∨ rInD false x y H Q
  | .nin => fun x y H Q => L2.rIn K true x y H Q ∨ rInD true x y H Q
theorem op_rC {cx : L2.Cx} (hu : cx.A.units + 64 < PySem.cLine) : ∀ o : Cop, L2.OpR cx (PySem.compareOp (astC o)) (rC cx.K o)
  | .lt => L2.op_lt
  | .le => L2.op_le
  | .gt => L2.op_gt
  | .ge => L2.op_ge
  | .eq => L2.op_eqD hu
  | .ne => L2.op_neD hu
  | .inn => L2.op_in_seq.or (op_in_dict (by omega))
  | .nin => L2.op_notIn_seq.or (op_notIn_dict (by omega))
theorem cop_sem {o : Cop} {x y : D} {u v : V} {Q : VK} (S : Sto X.toGx H al M) (rx : Rep X.K H al M x u) (ry : Rep X.K H al M y v) (p : Po X (rE X) W σ H al M Q (cmpop o x y M)) : rC X.K o u v H Q := by
  unfold cmpop at p
  split at p
  · cases rep_int rx; cases rep_int ry; exact ⟨_, _, rfl, rfl, p.ok S bl_rep⟩
  · cases rep_int rx; cases rep_int ry; exact ⟨_, _, rfl, rfl, p.ok S bl_rep⟩
  · cases rep_int rx; cases rep_int ry; exact ⟨_, _, rfl, rfl, p.ok S bl_rep⟩
  · cases rep_int rx; cases rep_int ry; exact ⟨_, _, rfl, rfl, p.ok S bl_rep⟩
  · split at p
    · rename_i h
      refine ⟨_, _, top_dp S rx h.1, top_dp S ry h.2, shaped_of h.1, shaped_of h.2, ?_⟩
      rw [eqd_eqv 12 _ _ h.1 h.2]
      exact p.ok S bl_rep
    · exact p.elim
  · split at p
    · rename_i h
      refine ⟨_, _, top_dp S rx h.1, top_dp S ry h.2, shaped_of h.1, shaped_of h.2, ?_⟩
      rw [eqd_eqv 12 _ _ h.1 h.2]
      exact p.ok S bl_rep
    · exact p.elim
  · split at p
    · rename_i ys e
      split at p
      · rename_i h
        obtain ⟨a, vs, rfl, h1, h2⟩ := seqOf_at S ry e
        refine .inl ⟨a, vs, rfl, h1, flat_rep rx h.1, flats_rep h2 h.2, ?_⟩
        rw [if_neg Bool.false_ne_true, inV_rep rx h.1 h2 h.2]
        exact p.ok S bl_rep
      · exact p.elim
    · split at p
      · rename_i kv e
        split at p
        · rename_i hk
          obtain ⟨a, o, rfl, g, h1, h2⟩ := dget_at S ry rx e hk
          refine .inr ⟨a, o, rfl, g, ?_⟩
          have : o.isSome = (dget kv.2 x).isSome := by
            cases hd : dget kv.2 x with
            | none => rw [h2 hd]; rfl
            | some d => obtain ⟨w, e, _⟩ := h1 d hd; rw [e]; rfl
          rw [this]
          exact p.ok S bl_rep
        · exact p.elim
      · exact p.elim
  · split at p
    · rename_i ys e
      split at p
      · rename_i h
        obtain ⟨a, vs, rfl, h1, h2⟩ := seqOf_at S ry e
        refine .inl ⟨a, vs, rfl, h1, flat_rep rx h.1, flats_rep h2 h.2, ?_⟩
        rw [if_pos rfl, inV_rep rx h.1 h2 h.2]
        exact p.ok S bl_rep
      · exact p.elim
    · split at p
      · rename_i kv e
        split at p
        · rename_i hk
          obtain ⟨a, o, rfl, g, h1, h2⟩ := dget_at S ry rx e hk
          refine .inr ⟨a, o, rfl, g, ?_⟩
          have : o.isSome = (dget kv.2 x).isSome := by
            cases hd : dget kv.2 x with
            | none => rw [h2 hd]; rfl
            | some d => obtain ⟨w, e, _⟩ := h1 d hd; rw [e]; rfl
          rw [this]
          exact p.ok S bl_rep
        · exact p.elim
      · exact p.elim
  · exact p.elim
theorem isEmpty_reps {ds : List D} {vs : List V} (r : Reps X.K H al M ds vs) : vs.isEmpty = ds.isEmpty := by
  cases ds with
  | nil => rw [Reps] at r; subst r; rfl
  | cons d ds => rw [Reps] at r; obtain ⟨v, r', e, _⟩ := r; subst e; rfl
theorem truth_sem {d : D} {v : V} {b : Bool} (S : Sto X.toGx H al M) (r : Rep X.K H al M d v) (h : truth M d = some b) : L2.TruV X.K v H b := by
  cases d with
  | non => cases rep_non r; simp only [truth, Option.some.injEq] at h; exact h.symm
  | bl c => cases rep_bl r; simp only [truth, Option.some.injEq] at h; exact h.symm
  | int i => cases rep_int r; simp only [truth, Option.some.injEq] at h; exact h.symm
  | tup xs =>
    obtain ⟨a, vs, rfl, h1, h2⟩ := tup_at r
    simp only [truth, Option.some.injEq] at h
    exact .inr (.inl ⟨vs, SqT.of h1, by rw [isEmpty_reps h2, h]⟩)
  | lst xs =>
    obtain ⟨a, vs, rfl, h1, h2⟩ := listOf_at S r (ds := xs) rfl
    simp only [truth, Option.some.injEq] at h
    exact .inl ⟨vs, SqL.of h1, by rw [isEmpty_reps h2, h]⟩
  | ptr n =>
    simp only [truth] at h
    split at h
    · rename_i xs e
      obtain ⟨a, vs, rfl, h1, h2⟩ := listOf_at (d := .ptr n) S r (ds := xs) (by simp only [listOf]; rw [e])
      cases h
      exact .inl ⟨vs, SqL.of h1, by rw [isEmpty_reps h2]⟩
    · cases h
  | _ => simp [truth] at h

theorem atI_reps {ds : List D} {vs : List V} {i : Int} {d : D} (r : Reps X.K H al M ds vs) (h : L2.atI ds i = some d) : ∃ v, L2.atI vs i = some v ∧ Rep X.K H al M d v := by
  unfold L2.atI at h ⊢
  rw [r.length]
  cases e : L2.ixN ds.length i with
  | none => rw [e] at h; cases h
  | some j =>
    rw [e] at h
    exact r.get h
theorem ix_sem {x i : D} {u v : V} {Q : VK} (S : Sto X.toGx H al M) (rx : Rep X.K H al M x u) (ri : Rep X.K H al M i v) (p : Po X (rE X) W σ H al M Q (ixd M x i)) : L2.rIx X.K u v H Q ∨ rIxD u v H Q := by
  unfold ixd at p
  split at p
  · rename_i kv e
    split at p
    · rename_i hk
      split at p
      · rename_i d ed
        obtain ⟨a, o, rfl, g, h1, h2⟩ := dget_at S rx ri e hk
        obtain ⟨w, rfl, rw'⟩ := h1 d ed
        exact .inr ⟨a, w, rfl, g, p.ok S rw'⟩
      · exact p.elim
    · exact p.elim
  · split at p
    · split at p
      · rename_i xs e
        split at p
        · rename_i d ed
          cases rep_int ri
          obtain ⟨a, vs, rfl, h1, h2⟩ := seqOf_at S rx e
          obtain ⟨w, hw, rw'⟩ := atI_reps h2 ed
          rcases h1 with h1 | h1
          · exact .inl (.inl ⟨a, vs, _, w, rfl, rfl, h1, hw, p.ok S rw'⟩)
          · exact .inl (.inr (.inl ⟨a, vs, _, w, rfl, rfl, h1, hw, p.ok S rw'⟩))
        · exact p.elim
      · exact p.elim
    · exact p.elim
theorem cut_reps {ds : List D} {vs : List V} (lo hi : Option Int) (r : Reps X.K H al M ds vs) : Reps X.K H al M (cutd ds lo hi) (L2.cutV vs lo hi) := by
  unfold cutd L2.cutV
  rw [r.length]
  exact (r.drop _).take _
def rSl (K : PySem.W.Frag) : V → Option Int → Option Int → Hp → VK → Prop := fun x lo hi H Q => L2.rSlL K x lo hi H Q ∨ L2.rSlA K x lo hi H Q
theorem sl_ok {cx : L2.Cx} : L2.SlR cx (rSl cx.K) := L2.sl_list.or L2.sl_tupA
theorem sl_sem {x : D} {lo hi : Option Int} {u : V} {Q : VK} (S : Sto X.toGx H al M) (rx : Rep X.K H al M x u) (p : Po X (rE X) W σ H al M Q (sld M x lo hi)) : rSl X.K u lo hi H Q := by
  unfold sld at p
  split at p
  · rename_i xs
    obtain ⟨a, vs, rfl, h1, h2⟩ := tup_at rx
    refine .inr ⟨a, vs, rfl, SqT.of h1, fun hw => ?_, fun _ pp hp => Po.newT S (cut_reps lo hi h2) hp p⟩
    have : cutd xs lo hi = xs := by
      rw [h2.length] at hw
      unfold cutd
      rw [hw.1, hw.2]
      simp
    rw [this] at p
    exact p.ok S rx
  · rename_i ns
    rw [Rep] at rx
    obtain ⟨a, rfl, h1⟩ := rx
    exact .inl ⟨a, _, rfl, h1.sq, fun pp hp => Po.newC S (cut_reps lo hi (Reps.of_ints ns)) hp p⟩
  · split at p
    · rename_i xs e
      obtain ⟨a, vs, rfl, h1, h2⟩ := listOf_at S rx e
      exact .inl ⟨a, vs, rfl, SqL.of h1, fun pp hp => Po.newC S (cut_reps lo hi h2) hp p⟩
    · exact p.elim
end
end G

/-! GBi -/
set_option maxRecDepth 100000
set_option maxHeartbeats 4000000
namespace PySem
section
variable {prog : Program} {w : World} {A : Around} {E : Value → Shared → Prop} {s : Shared} {l : Addr} {xs : Array (Int × Tok)}
theorem g_iter_intTup {Q : Value → Shared → Prop} (hl : s.heap.IsTuple l (intItems xs))
    (h : ∀ s₂ : Shared, s₂ = { s with heap := s.heap.push { cls := .type "tuple_iterator", data := .fields #[.ref l, .int 0 0] } } →
      (s₂.heap.IsTupleIter s.heap.objs.size l 0 ∧ s₂.heap.IsTuple l (intItems xs)) → (∀ b ∈ [s.heap.objs.size, l], b < s₂.heap.objs.size) → l ≠ s.heap.objs.size → Q (.ref s.heap.objs.size) s₂) :
    wpAny (model prog w) A (pyIter (.ref l)) Q E s := by
  have hlt : l < s.heap.objs.size := by obtain ⟨_, e, _⟩ := hl; exact Heap.lt_size e
  refine wpAny_pyIter_tuple hl (h _ rfl ⟨⟨_, Heap.get?_push_size _ rfl, rfl, rfl⟩, hl.at fun o e => Heap.get?_push_of_some _ e⟩ (fun b hb => ?_) (Nat.ne_of_lt hlt))
  show b < (s.heap.push _).objs.size
  rw [Heap.size_push]
  rcases List.mem_cons.mp hb with rfl | hb
  · exact Nat.lt_succ_self _
  · rcases List.mem_cons.mp hb with rfl | hb
    · exact Nat.lt_succ_of_lt hlt
    · cases hb
theorem g_old_kept {h' : Heap} (hk : ∀ b o, b ∉ [s.heap.objs.size] → (s.heap.push { cls := .type "tuple_iterator", data := .fields #[.ref l, .int 0 0] }).get? b = some o → h'.get? b = some o) :
    ∀ b o, s.heap.get? b = some o → h'.get? b = some o := fun b o e => by
  refine hk b o (fun hm => ?_) (Heap.get?_push_of_some _ e)
  rcases List.mem_cons.mp hm with e1 | hm
  · exact absurd (e1 ▸ Heap.lt_size e) (Nat.lt_irrefl _)
  · cases hm
theorem g_max_intTup {Q : Value → Shared → Prop} (hh : A.handled = none) (hl : s.heap.IsTuple l (intItems xs)) (hne : 0 < xs.size)
    (h : ∀ v h' tk, (intItems xs)[argBest (fun i j => decide (numAt xs i > numAt xs j)) (xs.size - 1)]? = some v → (∀ b o, s.heap.get? b = some o → h'.get? b = some o) → Q v { s with heap := h', toks := tk }) :
    wpAny (model prog w) A (call (.builtin "max") [.ref l]) Q E s := by
  refine call_max_walk (g_iter_intTup hl fun s₂ e st hfp hlI => ?_)
  subst e
  refine ⟨_, _, _, _, _, _, _, rfl, Walks.tuple (A := A.in1) hh _ l hlI (intItems xs), st, hfp, by simpa [intItems] using hne, CmpOf.ints_gt (numAt xs) (fun _ _ => intItems_at), fun v h' tk hP hk => ?_⟩
  exact h v h' tk (by simpa [intItems] using hP) (g_old_kept hk)
theorem g_min_intTup {Q : Value → Shared → Prop} (hh : A.handled = none) (hl : s.heap.IsTuple l (intItems xs)) (hne : 0 < xs.size)
    (h : ∀ v h' tk, (intItems xs)[argBest (fun i j => decide (numAt xs i < numAt xs j)) (xs.size - 1)]? = some v → (∀ b o, s.heap.get? b = some o → h'.get? b = some o) → Q v { s with heap := h', toks := tk }) :
    wpAny (model prog w) A (call (.builtin "min") [.ref l]) Q E s := by
  refine call_min_walk (g_iter_intTup hl fun s₂ e st hfp hlI => ?_)
  subst e
  refine ⟨_, _, _, _, _, _, _, rfl, Walks.tuple (A := A.in1) hh _ l hlI (intItems xs), st, hfp, by simpa [intItems] using hne, CmpOf.ints_lt (numAt xs) (fun _ _ => intItems_at), fun v h' tk hP hk => ?_⟩
  exact h v h' tk (by simpa [intItems] using hP) (g_old_kept hk)
end
end PySem

namespace L2
open PySem PySem.Spec PyProof.Rows
section
variable {prog : Program} {w : World} {A : Around} {E : Value → Shared → Prop} {s : Shared} {l : Addr} {its : List Value} {ns : List Int} {Q : Value → Shared → Prop}
theorem g_sumT_raw (hh : A.handled = none) (hl : s.heap.IsTuple l its.toArray) (hi : IntsAre its ns)
    (h : ∀ h' tk t', (∀ b o, s.heap.get? b = some o → h'.get? b = some o) → Q (.int ns.sum t') { s with heap := h', toks := tk }) : wpAny (model prog w) A (call (.builtin "sum") [.ref l]) Q E s := by
  obtain ⟨xs, e⟩ := hi.allInts.items
  have hn : numsOf (intItems xs).toList = ns := by rw [← e]; exact hi.numsOf
  rw [nums_intItems] at hn
  rw [e] at hl
  refine PySem.W.ktm_sumG hh hl fun h' tk t' hk => ?_
  have := h h' tk t' hk
  rw [preSum_eq, List.take_of_length_le (by simp), hn]; exact this
theorem g_maxT_raw (hh : A.handled = none) (hl : s.heap.IsTuple l its.toArray) (hi : IntsAre its ns) (hne : 0 < ns.length)
    (h : ∀ h' tk M t', (∀ b o, s.heap.get? b = some o → h'.get? b = some o) → M ∈ ns → (∀ a, a ∈ ns → a ≤ M) → Q (.int M t') { s with heap := h', toks := tk }) : wpAny (model prog w) A (call (.builtin "max") [.ref l]) Q E s := by
  obtain ⟨xs, e⟩ := hi.allInts.items
  have hn : numsOf (intItems xs).toList = ns := by rw [← e]; exact hi.numsOf
  rw [nums_intItems] at hn
  subst hn
  rw [e] at hl
  have hsz : 0 < xs.size := by simpa using hne
  refine PySem.g_max_intTup hh hl hsz fun v h' tk hv hk => ?_
  obtain ⟨t, rfl⟩ := intItems_at hv
  obtain ⟨h1, h2⟩ := argBest_gt (numAt xs) (xs.size - 1)
  refine h h' tk _ t hk ?_ fun a ha => ?_
  · rw [numAt_eq]; exact PySem.getD_mem (by rw [List.length_map, Array.length_toList]; omega)
  · obtain ⟨j, hj, rfl⟩ := mem_getD ha
    rw [List.length_map, Array.length_toList] at hj
    rw [← numAt_eq]; exact h2 j (by omega)
theorem g_minT_raw (hh : A.handled = none) (hl : s.heap.IsTuple l its.toArray) (hi : IntsAre its ns) (hne : 0 < ns.length)
    (h : ∀ h' tk M t', (∀ b o, s.heap.get? b = some o → h'.get? b = some o) → M ∈ ns → (∀ a, a ∈ ns → M ≤ a) → Q (.int M t') { s with heap := h', toks := tk }) : wpAny (model prog w) A (call (.builtin "min") [.ref l]) Q E s := by
  obtain ⟨xs, e⟩ := hi.allInts.items
  have hn : numsOf (intItems xs).toList = ns := by rw [← e]; exact hi.numsOf
  rw [nums_intItems] at hn
  subst hn
  rw [e] at hl
  have hsz : 0 < xs.size := by simpa using hne
  refine PySem.g_min_intTup hh hl hsz fun v h' tk hv hk => ?_
  obtain ⟨t, rfl⟩ := intItems_at hv
  obtain ⟨h1, h2⟩ := argBest_lt (numAt xs) (xs.size - 1)
  refine h h' tk _ t hk ?_ fun a ha => ?_
  · rw [numAt_eq]; exact PySem.getD_mem (by rw [List.length_map, Array.length_toList]; omega)
  · obtain ⟨j, hj, rfl⟩ := mem_getD ha
    rw [List.length_map, Array.length_toList] at hj
    rw [← numAt_eq]; exact h2 j (by omega)
end
section
variable {X : Cx}
def g_rSumT (K : PySem.W.Frag) : List V → Hp → VK → Prop := fun vs H Q => ∃ (a : Addr) (ns : List Int), vs = [V.ref a] ∧ SqT K H a (ns.map V.int) ∧ Q (.int ns.sum) H
def g_rMaxT (K : PySem.W.Frag) : List V → Hp → VK → Prop := fun vs H Q => ∃ (a : Addr) (ns : List Int), vs = [V.ref a] ∧ SqT K H a (ns.map V.int) ∧ 0 < ns.length ∧ ∀ m, m ∈ ns → (∀ y, y ∈ ns → y ≤ m) → Q (.int m) H
def g_rMinT (K : PySem.W.Frag) : List V → Hp → VK → Prop := fun vs H Q => ∃ (a : Addr) (ns : List Int), vs = [V.ref a] ∧ SqT K H a (ns.map V.int) ∧ 0 < ns.length ∧ ∀ m, m ∈ ns → (∀ y, y ∈ ns → m ≤ y) → Q (.int m) H
theorem g_cr_sumT (hc : X.calm = true) : CallR X (.builtin "sum") (g_rSumT X.K) := by
  intro pins s σ H vs us Q I r h
  obtain ⟨a, ns, rfl, hs, q⟩ := h
  obtain ⟨its, rv, hl, _⟩ := I.tuple hs
  rw [Vals.ref1 r]
  exact g_sumT_raw (I.ok.hd hc) hl rv.ints fun h' tk t' hk => ⟨.int _, H, I.kept hk, ⟨_, rfl⟩, q⟩
theorem g_cr_maxT (hc : X.calm = true) : CallR X (.builtin "max") (g_rMaxT X.K) := by
  intro pins s σ H vs us Q I r h
  obtain ⟨a, ns, rfl, hs, hne, q⟩ := h
  obtain ⟨its, rv, hl, _⟩ := I.tuple hs
  rw [Vals.ref1 r]
  exact g_maxT_raw (I.ok.hd hc) hl rv.ints hne fun h' tk m t' hk h1 h2 => ⟨.int _, H, I.kept hk, ⟨_, rfl⟩, q m h1 h2⟩
theorem g_cr_minT (hc : X.calm = true) : CallR X (.builtin "min") (g_rMinT X.K) := by
  intro pins s σ H vs us Q I r h
  obtain ⟨a, ns, rfl, hs, hne, q⟩ := h
  obtain ⟨its, rv, hl, _⟩ := I.tuple hs
  rw [Vals.ref1 r]
  exact g_minT_raw (I.ok.hd hc) hl rv.ints hne fun h' tk m t' hk h1 h2 => ⟨.int _, H, I.kept hk, ⟨_, rfl⟩, q m h1 h2⟩
end
end L2

namespace G
open PySem (Str PyData)
open L2 (V HO Hp upd upd_same upd_ne SqL SqT Rd WX VK TE TT TA TO R2)

/-- the name of a built-in function, its value -/
def biN : Bi → Str
  | .len => "len" | .sum => "sum" | .max1 => "max" | .max2 => "max" | .min1 => "min" | .min2 => "min" | .abs => "abs" | .int => "int" | .sorted _ => "sorted" | .list _ => "list" | .tuple => "tuple" | .any => "any" | .all => "all"
def biV : Bi → PySem.Value
  | .len => .builtin "len" | .sum => .builtin "sum" | .max1 => .builtin "max" | .max2 => .builtin "max" | .min1 => .builtin "min" | .min2 => .builtin "min" | .abs => .builtin "abs" | .int => .type "int" | .sorted _ => .builtin "sorted"
  | .list _ => .type "list" | .tuple => .type "tuple" | .any => .builtin "any" | .all => .builtin "all"
theorem biBoot : ∀ f : Bi, PySem.bootBuiltins (biN f) = some (biV f)
  | .len => by decide +kernel | .sum => by decide +kernel | .max1 => by decide +kernel | .max2 => by decide +kernel | .min1 => by decide +kernel | .min2 => by decide +kernel | .abs => by decide +kernel | .int => by decide +kernel 
  | .sorted _ => by show PySem.bootBuiltins "sorted" = some (.builtin "sorted"); decide +kernel
  | .list _ => by show PySem.bootBuiltins "list" = some (.type "list"); decide +kernel
  | .tuple => by decide +kernel | .any => by decide +kernel | .all => by decide +kernel
def rBi (K : PySem.W.Frag) : Bi → List V → Hp → VK → Prop
  | .len => fun xs H Q => (∃ p ys, xs = [.ref p] ∧ (SqL K H p ys ∨ SqT K H p ys) ∧ Q (.int ys.length) H) ∨ rLenD xs H Q
  | .sum => fun vs H Q => L2.rSum K vs H Q ∨ L2.g_rSumT K vs H Q
  | .max1 => fun vs H Q => L2.rMax K vs H Q ∨ L2.g_rMaxT K vs H Q
  | .min1 => fun vs H Q => L2.rMin K vs H Q ∨ L2.g_rMinT K vs H Q
  | .max2 => fun xs H Q => ∃ i j, xs = [.int i, .int j] ∧ Q (.int (if j > i then j else i)) H
  | .min2 => fun xs H Q => ∃ i j, xs = [.int i, .int j] ∧ Q (.int (if j < i then j else i)) H
  | .abs => fun xs H Q => ∃ i, xs = [.int i] ∧ Q (.int (if i < 0 then -i else i)) H
  | .int => fun xs H Q => (∃ i, xs = [.int i] ∧ Q (.int i) H) ∨ ∃ k, xs = [.bl k] ∧ Q (.int (if k then 1 else 0)) H
  | .sorted _ => fun xs H Q => L2.rSortedI K xs H Q ∨ L2.rSortedPO K xs H Q
  | .list _ => fun xs H Q => (∃ p ys, xs = [.ref p] ∧ (SqL K H p ys ∨ SqT K H p ys) ∧ ∀ l, H l = none → Q (.ref l) (upd H l (.lst ys))) ∨ rListB xs H Q
  | .tuple => fun xs H Q => ∃ p ys, xs = [.ref p] ∧ ((SqL K H p ys ∧ ∀ l, H l = none → Q (.ref l) (upd H l (.tup ys))) ∨ (SqT K H p ys ∧ Q (.ref p) H))
  | .any => L2.rAny K
  | .all => L2.rAll K
theorem cr_rBi {cx : L2.Cx} (hc : cx.calm = true) : ∀ f : Bi, L2.CallR cx (biV f) (rBi cx.K f)
  | .len => L2.call_len_seq.or call_lenB
  | .sum => (L2.cr_sum hc).or (L2.g_cr_sumT hc)
  | .max1 => (L2.cr_max hc).or (L2.g_cr_maxT hc)
  | .min1 => (L2.cr_min hc).or (L2.g_cr_minT hc)
  | .max2 => L2.call_max2 hc
  | .min2 => L2.call_min2 hc
  | .abs => L2.call_abs
  | .int => L2.call_int1
  | .sorted _ => L2.cr_sortedI.or L2.cr_sortedPO
  | .list _ => L2.call_list_of.or (call_listB hc)
  | .tuple => L2.call_tuple_of
  | .any => L2.cr_any hc
  | .all => L2.cr_all hc

theorem max_of {ns : List Int} {m : Int} (h : maxOf ns = some m) : m ∈ ns ∧ ∀ y ∈ ns, y ≤ m := by
  have := List.max?_eq_some_iff.mp (show ns.max? = some m from h)
  exact this
theorem min_of {ns : List Int} {m : Int} (h : minOf ns = some m) : m ∈ ns ∧ ∀ y ∈ ns, m ≤ y := by
  have := List.min?_eq_some_iff.mp (show ns.min? = some m from h)
  exact this
theorem sortI_perm (ns : List Int) : (sortI ns).Perm ns := List.mergeSort_perm _ _
theorem sortI_sorted (ns : List Int) : (sortI ns).Pairwise (· ≤ ·) := by
  have := List.pairwise_mergeSort (le := fun a b : Int => decide (a ≤ b)) (fun a b c h1 h2 => by simp at *; omega) (fun a b => by simp; omega) ns
  exact this.imp (by intro a b h; simpa using h)
theorem sortI_uniq {ns ns' : List Int} (h : ns'.Perm ns) (hs : ns'.Pairwise (· ≤ ·)) : ns' = sortI ns :=
  (h.trans (sortI_perm ns).symm).eq_of_pairwise (fun a b _ _ h1 h2 => Int.le_antisymm h1 h2) hs (sortI_sorted ns)

section
variable {X : Gy} {W : WX} {σ : L2.St} {H : Hp} {al : Am} {M : Store}
theorem reps_one {d : D} {vs : List V} (r : Reps X.K H al M [d] vs) : ∃ v, vs = [v] ∧ Rep X.K H al M d v := by
  rw [Reps] at r
  obtain ⟨v, r', e, h1, h2⟩ := r
  rw [Reps] at h2
  subst h2
  exact ⟨v, e, h1⟩
theorem reps_two {d e : D} {vs : List V} (r : Reps X.K H al M [d, e] vs) : ∃ v u, vs = [v, u] ∧ Rep X.K H al M d v ∧ Rep X.K H al M e u := by
  rw [Reps] at r
  obtain ⟨v, r', e1, h1, h2⟩ := r
  obtain ⟨u, e2, h3⟩ := reps_one h2
  subst e2
  exact ⟨v, u, e1, h1, h3⟩
theorem ints_at {x : D} {v : V} {ns : List Int} (S : Sto X.toGx H al M) (r : Rep X.K H al M x v) (h : (seqOf M x).bind intsOf = some ns) : ∃ a, v = .ref a ∧ (SqL X.K H a (ns.map V.int) ∨ SqT X.K H a (ns.map V.int)) := by
  cases e : seqOf M x with
  | none => rw [e] at h; cases h
  | some ds =>
    rw [e] at h
    have e2 := intsOf_eq (show intsOf ds = some ns from h)
    subst e2
    obtain ⟨a, vs, rfl, h1, h2⟩ := seqOf_at S r e
    rw [h2.ints] at h1
    exact ⟨a, rfl, h1⟩
theorem tupT_at {x : D} {v : V} {xs : List D} (S : Sto X.toGx H al M) (r : Rep X.K H al M x v) (h : seqOf M x = some xs) :
    (∃ a vs, v = .ref a ∧ SqL X.K H a vs ∧ Reps X.K H al M xs vs) ∨ ∃ a vs, v = .ref a ∧ SqT X.K H a vs ∧ rE X H al M (.tup xs) v := by
  cases x with
  | tup ds =>
    simp only [seqOf, Option.some.injEq] at h
    subst h
    obtain ⟨a, vs, rfl, h1, h2⟩ := tup_at r
    exact .inr ⟨a, vs, rfl, SqT.of h1, r⟩
  | lst ds =>
    obtain ⟨a, vs, e, h1, h2⟩ := listOf_at S r (ds := xs) (by simpa [seqOf, listOf] using h)
    exact .inl ⟨a, vs, e, SqL.of h1, h2⟩
  | scr ns =>
    simp only [seqOf, Option.some.injEq] at h
    subst h
    rw [Rep] at r
    obtain ⟨a, e, h1⟩ := r
    exact .inl ⟨a, _, e, h1.sq, Reps.of_ints ns⟩
  | ptr n =>
    obtain ⟨a, vs, e, h1, h2⟩ := listOf_at S r (ds := xs) (by simpa [seqOf, listOf] using h)
    exact .inl ⟨a, vs, e, SqL.of h1, h2⟩
  | _ => simp [seqOf] at h
theorem bi_sem {f : Bi} {as : List D} {vs : List V} {Q : VK} (S : Sto X.toGx H al M) (r : Reps X.K H al M as vs) (p : Po X (rE X) W σ H al M Q (birun f as M)) : rBi X.K f vs H Q := by
  unfold birun at p
  split at p
  · obtain ⟨v, rfl, r1⟩ := reps_one r
    split at p
    · rename_i xs e
      obtain ⟨a, ys, rfl, h1, h2⟩ := seqOf_at S r1 e
      refine .inl ⟨a, ys, rfl, h1, ?_⟩
      rw [h2.length]
      exact p.ok S int_rep
    · split at p
      · rename_i kv e
        obtain ⟨a, w, rfl, h1, h2⟩ := dicN_at S r1 e
        obtain ⟨tk, kvs⟩ := kv
        cases tk with
        | false =>
          obtain ⟨xs, rfl, hr⟩ := h2
          refine .inr (.inl ⟨a, xs, rfl, h1, ?_⟩)
          rw [hr.length]
          exact p.ok S int_rep
        | true =>
          obtain ⟨xs, rfl, hr⟩ := h2
          refine .inr (.inr ⟨a, xs, rfl, h1, ?_⟩)
          rw [hr.length]
          exact p.ok S int_rep
      · exact p.elim
  · obtain ⟨v, rfl, r1⟩ := reps_one r
    split at p
    · rename_i ns e
      obtain ⟨a, rfl, h1 | h1⟩ := ints_at S r1 e
      · exact .inl ⟨a, ns, rfl, h1, p.ok S int_rep⟩
      · exact .inr ⟨a, ns, rfl, h1, p.ok S int_rep⟩
    · exact p.elim
  · obtain ⟨v, rfl, r1⟩ := reps_one r
    split at p
    · rename_i m e
      cases e1 : (seqOf M ‹D›).bind intsOf with
      | none => rw [e1] at e; cases e
      | some ns =>
        rw [e1] at e
        obtain ⟨m1, m2⟩ := max_of (show maxOf ns = some m from e)
        have hl : 0 < ns.length := List.length_pos_of_mem m1
        have fin : ∀ m', m' ∈ ns → (∀ y, y ∈ ns → y ≤ m') → Q (.int m') H := fun m' q1 q2 => by
          have : m' = m := Int.le_antisymm (m2 m' q1) (q2 m m1)
          subst this
          exact p.ok S int_rep
        obtain ⟨a, rfl, h1 | h1⟩ := ints_at S r1 e1
        · exact .inl ⟨a, ns, rfl, h1, hl, fin⟩
        · exact .inr ⟨a, ns, rfl, h1, hl, fin⟩
    · exact p.elim
  · obtain ⟨v, rfl, r1⟩ := reps_one r
    split at p
    · rename_i m e
      cases e1 : (seqOf M ‹D›).bind intsOf with
      | none => rw [e1] at e; cases e
      | some ns =>
        rw [e1] at e
        obtain ⟨m1, m2⟩ := min_of (show minOf ns = some m from e)
        have hl : 0 < ns.length := List.length_pos_of_mem m1
        have fin : ∀ m', m' ∈ ns → (∀ y, y ∈ ns → m' ≤ y) → Q (.int m') H := fun m' q1 q2 => by
          have : m' = m := Int.le_antisymm (q2 m m1) (m2 m' q1)
          subst this
          exact p.ok S int_rep
        obtain ⟨a, rfl, h1 | h1⟩ := ints_at S r1 e1
        · exact .inl ⟨a, ns, rfl, h1, hl, fin⟩
        · exact .inr ⟨a, ns, rfl, h1, hl, fin⟩
    · exact p.elim
  · obtain ⟨v, u, rfl, r1, r2⟩ := reps_two r
    cases rep_int r1; cases rep_int r2
    exact ⟨_, _, rfl, p.ok S int_rep⟩
  · obtain ⟨v, u, rfl, r1, r2⟩ := reps_two r
    cases rep_int r1; cases rep_int r2
    exact ⟨_, _, rfl, p.ok S int_rep⟩
  · obtain ⟨v, rfl, r1⟩ := reps_one r
    cases rep_int r1
    exact ⟨_, rfl, p.ok S int_rep⟩
  · obtain ⟨v, rfl, r1⟩ := reps_one r
    cases rep_int r1
    exact .inl ⟨_, rfl, p.ok S int_rep⟩
  · obtain ⟨v, rfl, r1⟩ := reps_one r
    split at p
    · rename_i ns e
      cases e1 : listOf M ‹D› with
      | none => rw [e1] at e; cases e
      | some ds =>
        rw [e1] at e
        have e2 := intsOf_eq (show intsOf ds = some ns from e)
        subst e2
        obtain ⟨a, vs, rfl, h1, h2⟩ := listOf_at S r1 e1
        rw [h2.ints] at h1
        refine .inl ⟨a, ns, rfl, SqL.of h1, fun ns' pp hp hs hn => ?_⟩
        rw [sortI_uniq hp hs]
        exact Po.newL S (Reps.of_ints _) hn p
    · split at p
      · rename_i ps e
        cases e1 : listOf M ‹D› with
        | none => rw [e1] at e; cases e
        | some ds =>
          rw [e1] at e
          have e2 := pairsOf_eq (show pairsOf ds = some ps from e)
          subst e2
          obtain ⟨a, vs, rfl, h1, h2⟩ := listOf_at S r1 e1
          exact .inr (sortP_sem S h1 h2 p)
      · exact p.elim
  · obtain ⟨v, rfl, r1⟩ := reps_one r
    split at p
    · rename_i xs e
      obtain ⟨a, ys, rfl, h1, h2⟩ := seqOf_at S r1 e
      exact .inl ⟨a, ys, rfl, h1, fun l hl => Po.newL S h2 hl p⟩
    · split at p
      · rename_i kv e
        obtain ⟨a, w, rfl, h1, h2⟩ := dicN_at S r1 e
        obtain ⟨tk, kvs⟩ := kv
        cases tk with
        | false =>
          obtain ⟨xs, rfl, hr⟩ := h2
          exact .inr (.inl ⟨a, xs, rfl, h1, fun q hq => Po.newL S (kD_reps hr) hq p⟩)
        | true =>
          obtain ⟨xs, rfl, hr⟩ := h2
          exact .inr (.inr ⟨a, xs, rfl, .inl h1, fun q bs hq hb => Po.newL S (tD_reps hr hb) hq p⟩)
      · exact p.elim
  · obtain ⟨v, rfl, r1⟩ := reps_one r
    split at p
    · rename_i xs e
      rcases tupT_at S r1 e with ⟨a, vs, rfl, h1, h2⟩ | ⟨a, vs, rfl, h1, e4⟩
      · exact ⟨a, vs, rfl, .inl ⟨h1, fun l hl => Po.newT S h2 hl p⟩⟩
      · exact ⟨a, vs, rfl, .inr ⟨h1, p.ok S e4⟩⟩
    · exact p.elim
  · obtain ⟨v, rfl, r1⟩ := reps_one r
    split at p
    · rename_i bs e
      cases e1 : listOf M ‹D› with
      | none => rw [e1] at e; cases e
      | some ds =>
        rw [e1] at e
        have e2 := boolsOf_eq (show boolsOf ds = some bs from e)
        subst e2
        obtain ⟨a, vs, rfl, h1, h2⟩ := listOf_at S r1 e1
        rw [Reps.bools h2] at h1
        exact ⟨a, bs, rfl, SqL.of h1, p.ok S bl_rep⟩
    · exact p.elim
  · obtain ⟨v, rfl, r1⟩ := reps_one r
    split at p
    · rename_i bs e
      cases e1 : listOf M ‹D› with
      | none => rw [e1] at e; cases e
      | some ds =>
        rw [e1] at e
        have e2 := boolsOf_eq (show boolsOf ds = some bs from e)
        subst e2
        obtain ⟨a, vs, rfl, h1, h2⟩ := listOf_at S r1 e1
        rw [Reps.bools h2] at h1
        exact ⟨a, bs, rfl, SqL.of h1, p.ok S bl_rep⟩
    · exact p.elim
  · exact p.elim

theorem ptr_at {n : Nat} {v : V} {xs : List D} (S : Sto X.toGx H al M) (r : Rep X.K H al M (.ptr n) v) (e : M[n]? = some (.lst xs)) : ∃ a vs, v = .ref a ∧ al.ad[n]? = some a ∧ H a = some (.lst vs) ∧ Reps X.K H al M xs vs ∧ live M n := by
  rw [Rep] at r
  obtain ⟨a, rfl, h1⟩ := r
  obtain ⟨vs, h2, h3⟩ := S.at_ n _ a e h1
  exact ⟨a, vs, rfl, h1, h2, h3, ⟨_, e, rfl⟩⟩
theorem Po.chgL {Q : VK} {n : Nat} {a : PySem.Addr} {d : D} {v : V} {xs : List D} {vs : List V} (S : Sto X.toGx H al M) (l : live M n) (h1 : al.ad[n]? = some a) (rs : Reps X.K H al M xs vs) (r : Rep X.K H al M d v) (p : Po X (rE X) W σ H al M Q (.ok d (M.set n (.lst xs)))) : Q v (upd H a (.lst vs)) := by
  have s : Stp H al M (upd H a (.lst vs)) al (M.set n (.lst xs)) := Stp.chg S l h1
  exact p al _ v s (S.chg l h1 ⟨vs, upd_same, Reps.mono S s _ _ rs⟩) (Rep.mono S s _ _ r)
def rBm (K : PySem.W.Frag) : Bm → V → List V → Hp → VK → Prop
  | .append => L2.rAppend
  | .popAt => L2.rPopAt
  | .pop => L2.rPop
  | .index => L2.rIndex K
def bmN : Bm → Str
  | .append => "append" | .popAt => "pop" | .pop => "pop" | .index => "index"
theorem bm_sem {f : Bm} {o : D} {as : List D} {u : V} {vs : List V} {Q : VK} (S : Sto X.toGx H al M) (ro : Rep X.K H al M o u) (r : Reps X.K H al M as vs) (p : Po X (rE X) W σ H al M Q (bmrun f o as M)) : rBm X.K f u vs H Q := by
  unfold bmrun at p
  split at p
  · obtain ⟨v, rfl, r1⟩ := reps_one r
    split at p
    · rename_i xs e
      split at p
      · rename_i hz
        obtain ⟨a, ws, rfl, h1, h2, h3, l⟩ := ptr_at S ro e
        exact ⟨a, ws, v, rfl, rfl, h2, by rw [h3.length]; exact hz, Po.chgL S l h1 (h3.append (.cons r1 .nil)) (by rw [Rep]) p⟩
      · exact p.elim
    · exact p.elim
  · obtain ⟨v, rfl, r1⟩ := reps_one r
    cases rep_int r1
    split at p
    · rename_i xs e
      split at p
      · rename_i hz
        split at p
        · rename_i y ey
          obtain ⟨a, ws, rfl, h1, h2, h3, l⟩ := ptr_at S ro e
          obtain ⟨w, hw, rw'⟩ := h3.get ey
          have hl := h3.length
          refine ⟨a, ws, _, _, w, rfl, rfl, h2, by omega, (by omega), ?_, hw, Po.chgL S l h1 (h3.erase _) rw' p⟩
          exact PySem.StrLaws.seqIndex_nonneg hz.1 (by omega)
        · exact p.elim
      · exact p.elim
    · exact p.elim
  · rw [Reps] at r
    subst r
    split at p
    · rename_i xs e
      split at p
      · rename_i y ey
        obtain ⟨a, ws, rfl, h1, h2, h3, l⟩ := ptr_at S ro e
        obtain ⟨w, hw, rw'⟩ := h3.get ey
        exact ⟨a, ws, w, rfl, rfl, h2, by rw [h3.length]; exact hw, Po.chgL S l h1 h3.dropLast rw' p⟩
      · exact p.elim
    · exact p.elim
  · obtain ⟨v, rfl, r1⟩ := reps_one r
    split at p
    · rename_i xs e
      split at p
      · rename_i hf
        split at p
        · rename_i j ej
          obtain ⟨a, ws, rfl, h1, h2⟩ := listOf_at S ro e
          obtain ⟨hj, q1, q2⟩ := List.findIdx?_eq_some_iff_getElem.mp ej
          obtain ⟨z, hz, rz⟩ := h2.get (i := j) (d := xs[j]) (by simp [hj])
          have ff : ∀ (k : Nat) (hk : k < xs.length), flatd xs[k] = true := fun k hk => List.all_eq_true.mp hf.2 _ (List.getElem_mem hk)
          refine ⟨a, ws, v, j, z, rfl, rfl, SqL.of h1, flat_rep r1 hf.1, flats_rep h2 hf.2, hz, ?_, fun m z' hm e' => ?_, p.ok S int_rep⟩
          · rw [flateq_rep rz r1 (ff j hj) hf.1]; exact q1
          · obtain ⟨d, ed, rd⟩ := h2.get' e'
            obtain ⟨hml, ed2⟩ := List.getElem?_eq_some_iff.mp ed
            subst ed2
            rw [flateq_rep rd r1 (ff m hml) hf.1]
            have := q2 m hm
            simpa using this
        · exact p.elim
      · exact p.elim
    · exact p.elim
  · exact p.elim

def tyN : Ty → String
  | .int => "int" | .bool => "bool" | .str => "str" | .tuple => "tuple" | .list => "list"
theorem tyBoot : ∀ t : Ty, PySem.bootBuiltins (Str.ofString (tyN t)) = some (.type (tyN t))
  | .int => by decide +kernel | .bool => by decide +kernel | .str => by decide +kernel | .tuple => by decide +kernel | .list => by decide +kernel
theorem kit_non (K : PySem.W.Frag) : ∀ t : Ty, PySem.W.kitOne K (.type "NoneType") (.type (tyN t)) = some false
  | .int => L2.kit_ty (by decide +kernel) | .bool => L2.kit_ty (by decide +kernel) | .str => L2.kit_ty (by decide +kernel) | .tuple => L2.kit_ty (by decide +kernel) | .list => L2.kit_ty (by decide +kernel)
theorem kit_bool (K : PySem.W.Frag) : ∀ t : Ty, PySem.W.kitOne K (.type "bool") (.type (tyN t)) = some (match t with | .bool => true | .int => true | _ => false)
  | .int => L2.kit_ty (by decide +kernel) | .bool => L2.kit_ty (by decide +kernel) | .str => L2.kit_ty (by decide +kernel) | .tuple => L2.kit_ty (by decide +kernel) | .list => L2.kit_ty (by decide +kernel)
theorem kit_int (K : PySem.W.Frag) : ∀ t : Ty, PySem.W.kitOne K (.type "int") (.type (tyN t)) = some (match t with | .int => true | _ => false)
  | .int => L2.kit_ty (by decide +kernel) | .bool => L2.kit_ty (by decide +kernel) | .str => L2.kit_ty (by decide +kernel) | .tuple => L2.kit_ty (by decide +kernel) | .list => L2.kit_ty (by decide +kernel)
theorem kit_str (K : PySem.W.Frag) : ∀ t : Ty, PySem.W.kitOne K (.type "str") (.type (tyN t)) = some (match t with | .str => true | _ => false)
  | .int => L2.kit_ty (by decide +kernel) | .bool => L2.kit_ty (by decide +kernel) | .str => L2.kit_ty (by decide +kernel) | .tuple => L2.kit_ty (by decide +kernel) | .list => L2.kit_ty (by decide +kernel)
theorem kit_tuple (K : PySem.W.Frag) : ∀ t : Ty, PySem.W.kitOne K (.type "tuple") (.type (tyN t)) = some (match t with | .tuple => true | _ => false)
  | .int => L2.kit_ty (by decide +kernel) | .bool => L2.kit_ty (by decide +kernel) | .str => L2.kit_ty (by decide +kernel) | .tuple => L2.kit_ty (by decide +kernel) | .list => L2.kit_ty (by decide +kernel)
theorem kit_list (K : PySem.W.Frag) : ∀ t : Ty, PySem.W.kitOne K (.type "list") (.type (tyN t)) = some (match t with | .list => true | _ => false)
  | .int => L2.kit_ty (by decide +kernel) | .bool => L2.kit_ty (by decide +kernel) | .str => L2.kit_ty (by decide +kernel) | .tuple => L2.kit_ty (by decide +kernel) | .list => L2.kit_ty (by decide +kernel)
theorem isTy_sem {t : Ty} {d : D} {v : V} {b : Bool} {Q : VK} (S : Sto X.toGx H al M) (r : Rep X.K H al M d v) (e : isTy M t d = some b) (q : Q (.bl b) H) : L2.rIsi X.K [v, .ty (tyN t)] H Q := by
  cases d with
  | non => cases rep_non r; simp only [isTy, Option.some.injEq] at e; subst e; exact ⟨_, _, _, _, _, rfl, .ty _, .base .non, kit_non _ t, q⟩
  | bl c => cases rep_bl r; simp only [isTy, Option.some.injEq] at e; subst e; exact ⟨_, _, _, _, _, rfl, .ty _, .base (.bl _), kit_bool _ t, q⟩
  | int i => cases rep_int r; simp only [isTy, Option.some.injEq] at e; subst e; exact ⟨_, _, _, _, _, rfl, .ty _, .base (.int _), kit_int _ t, q⟩
  | str x => cases rep_str r; simp only [isTy, Option.some.injEq] at e; subst e; exact ⟨_, _, _, _, _, rfl, .ty _, .base (.str _), kit_str _ t, q⟩
  | tup xs =>
    obtain ⟨a, vs, rfl, h1, h2⟩ := tup_at r
    simp only [isTy, Option.some.injEq] at e; subst e
    exact ⟨_, _, _, _, _, rfl, .ty _, .base (.tup h1), kit_tuple _ t, q⟩
  | lst xs =>
    obtain ⟨a, vs, rfl, h1, h2⟩ := listOf_at S r (ds := xs) rfl
    simp only [isTy, Option.some.injEq] at e; subst e
    exact ⟨_, _, _, _, _, rfl, .ty _, .base (.lst h1), kit_list _ t, q⟩
  | scr ns =>
    rw [Rep] at r
    obtain ⟨a, rfl, h1⟩ := r
    simp only [isTy, Option.some.injEq] at e; subst e
    rcases h1 with ⟨o, h1⟩ | ⟨o, its, n, h1, h2, _⟩
    · exact ⟨_, _, _, _, _, rfl, .ty _, .base (.frz h1), kit_list _ t, q⟩
    · exact ⟨_, _, _, _, _, rfl, .ty _, .kList h1 h2, kit_list _ t, q⟩
  | ptr n =>
    simp only [isTy] at e
    split at e
    · rename_i xs e1
      obtain ⟨a, vs, rfl, _, h1, _, _⟩ := ptr_at S r e1
      cases e
      exact ⟨_, _, _, _, _, rfl, .ty _, .base (.lst h1), kit_list _ t, q⟩
    · cases e
end
end G

/-! GAst -/
set_option maxRecDepth 100000
set_option maxHeartbeats 4000000
namespace G
open PySem PySem.Spec PyProof.Rows L2
def noStar : Expr → Bool | .Starred .. => false | _ => true
theorem starEach_cons {e : Expr} {es : List Expr} {env : Env} (h : noStar e = true) : starEach (e :: es) env = (false, eval e env) :: starEach es env := by
  cases e <;> first | rfl | cases h
theorem star_plain {env : Env} {pos : Pos} : ∀ {es : List Expr}, es.all noStar = true → (backTo pos (starEach es env)).any (·.1) = false
  | [], _ => rfl
  | e :: es, h => by
    rw [List.all_cons, Bool.and_eq_true] at h
    rw [starEach_cons h.1]
    show (false || (backTo pos (starEach es env)).any (·.1)) = false
    rw [star_plain h.2]; rfl
def noSet : Expr → Bool | .Set .. => false | _ => true
theorem behind_of {op : CmpOp} {b : Expr} (h : noSet b = true) : behindInMarks op b = false := by
  cases b <;> first | rfl | cases h
theorem lastMarks2 {o p : CmpOp} {b c : Expr} (h : noSet c = true) : lastMarks [o, p] [b, c] = false := by
  show behindInMarks p c = false
  exact behind_of h
def noSlice : Expr → Bool | .Slice .. => false | _ => true
theorem plainIx_of {b : Expr} (h : noSlice b = true) : PlainIx b := fun o i => by
  cases b <;> first | rfl | cases h
def plainT : Expr → Bool
  | .UnaryOp .Not _ _ => false | .BoolOp .. => false | .IfExp .. => false | .Compare .. => false | _ => true
theorem plainT_of {e : Expr} {env : Env} (h : plainT e = true) : ∀ whole, isTrue e env whole = (do let v ← whole; standAt e.pos; holding [v] (truthy v)) := fun whole => by
  cases e <;> first
    | rfl
    | cases h
    | (rename_i op a pos; cases op <;> first | rfl | cases h)
def okBase : Expr → Bool
  | .Call (.Name _ _) [] [] _ => false | _ => true
theorem okBase_of {o : Expr} {f : Str} {env : Env} {whole : Sem Value} (h : okBase o = true) : attributeBase o f env whole = whole := by
  unfold attributeBase
  split
  · cases h
  · rfl
def noComp : Expr → Bool
  | .ListComp .. => false | .SetComp .. => false | .DictComp .. => false | _ => true
theorem noComp_of {e : Expr} {t : Option Expr} {l : Nat} {env : Env} (h : noComp e = true) : swapsWith e t l env = pure false := by
  cases e <;> first | rfl | cases h
theorem folded_of {e : Expr} {env : Env} (h : noSet e = true) (x : Value) : foldedSetIterable e env x = pure x := by
  cases e <;> first | rfl | cases h
def noTup : Expr → Bool
  | .Tuple .. => false | _ => true
theorem swapped_of {t e : Expr} {env : Env} (h : noTup e = true) : swappedStores [t] e env = pure none := by
  cases e <;> first | (cases t <;> rfl) | cases h
theorem assignEach_one {t : Expr} {env : Env} (h : noStar t = true) : (assignEach [t] env).map (·.2) = [assign t env] := by
  cases t <;> first | rfl | cases h
theorem form_of {env : Env} {pos : Pos} {es : List Expr} (h : es.all noStar = true) (hn : es.length < 30) : methodCallForm (es.length + ([] : List Keyword).length) (backTo pos (starEach es env)) (backToKw pos (keywordEach [] env)) = true := by
  unfold methodCallForm
  have h1 := star_plain (env := env) (pos := pos) h
  have h2 : (backTo pos (starEach es env)).all (fun x => !x.1) = true := by
    rw [List.all_eq_true]
    intro x hx
    have := List.any_eq_false.mp h1 x hx
    simpa using this
  rw [h2]
  show (true && true && decide (es.length + 0 + (if ([] : List (Option Str × Sem Value)).isEmpty then 0 else 1) < 30)) = true
  simp
  omega
theorem few_of {env : Env} {pos : Pos} {es : List Expr} (h : es.all noStar = true) (hn : es.length < 30) : ((backTo pos (starEach es env)).all (fun x => !x.1) && (backToKw pos (keywordEach [] env)).all (fun x => x.1.isSome)
      && decide (es.length + ([] : List Keyword).length + (if ([] : List Keyword).isEmpty then 0 else 1) < 30)) = true := form_of h hn
theorem meth_ev {o : Expr} {m : Str} {es : List Expr} {apos pos : Pos} {env : Env} (hb : okBase o = true) (h : es.all noStar = true) (hn : es.length < 30) (hl : (apos.endLine == pos.line) = true) :
    ∃ pl, eval (.Call (.Attribute o m apos) es [] pos) env = (do
      let ov ← eval o env
      standAt apos.atName
      let (f, first) ← holding [ov] (getMethod ov m pl)
      callWith pos f first (backTo pos (starEach es env)) (backToKw pos (keywordEach [] env))) := by
  refine ⟨(do return (← importBound o env).getD true), ?_⟩
  rw [arm_eval_Call, okBase_of hb]
  have hpos : methodCallPos true o env apos pos = pure pos := by unfold methodCallPos; simp [hl]
  unfold methodCall
  rw [form_of h hn, hpos]
  rfl
end G

/-! GChk -/
set_option maxRecDepth 100000
set_option maxHeartbeats 4000000
namespace G
open PySem PySem.Spec PyProof.Rows L2

/-- where a text is looked at: the program, the scope, the names by slot -/
structure Ck where
  P : Pg
  sc : Scope
  N : List Str
  fn : Str → Bool
def Ck.vis (c : Ck) (x : Str) : Bool := match c.sc.names.lookup x with
  | some .local => true
  | some .cell => true
  | some .free => true
  | _ => false
def Ck.loc (c : Ck) (x : Str) : Bool := match c.sc.names.lookup x with
  | some .local => true
  | some .cell => true
  | _ => false
def Ck.var (c : Ck) (i : Nat) (x : Str) : Bool := decide (c.N[i]? = some x) && c.vis x && !(x == ("__debug__" : Str)) && !(x == ("__classdict__" : Str))
def Ck.tgt (c : Ck) (i : Nat) (x : Str) : Bool := decide (c.N[i]? = some x) && c.loc x && (c.fn x || (match c.sc.names.lookup x with | some .local => true | _ => false))
def Ck.glb (c : Ck) (x : Str) : Bool := (match c.sc.names.lookup x with | some .globalImplicit => true | _ => false) && !(x == ("__debug__" : Str))
def Ck.blt (c : Ck) (x : Str) : Bool := c.glb x && decide (x ≠ "__name__")
def Ck.nmd (c : Ck) (i : Nat) (x : Str) : Bool := decide (c.P.nms[i]? = some x)
def blts : List Str := ["len", "sum", "max", "min", "abs", "int", "sorted", "list", "tuple", "any", "all", "isinstance", "range", "bool", "str"]

def chkGs (c : Ck) : List Nat → List Expr → Bool
  | [], [] => true
  | i :: is, .Name x _ :: es => c.tgt i x && chkGs c is es
  | _, _ => false
def chkG (c : Ck) : Gp → Expr → Bool
  | .n i, .Name x _ => c.tgt i x
  | .t is, .Tuple es _ _ => chkGs c is es
  | _, _ => false
def ownOf (c : Ck) (g : Gp) : List (Str × Nat) := (gslots g).map fun i => (c.N.getD i Str.empty, i)
def Ck.blk (c : Ck) (scope : Scope) : Ck := { c with sc := relS scope c.sc, fn := fun x => scope.names.lookup x == some .cell }

mutual
def chkE (c : Ck) : Xp → Expr → Bool
  | .non, e => match e with | .Constant .none _ _ => true | _ => false
  | .bl b, e => match e with | .Constant (.bool b') _ _ => b == b' | _ => false
  | .int i, e => match e with | .Constant (.int j) _ _ => decide (i = j) | _ => false
  | .str x, e => match e with | .Constant (.str y) _ _ => decide (x = y) | _ => false
  | .v i, e => match e with | .Name x _ => c.var i x | _ => false
  | .bin o a b, e => match e with | .BinOp l op r _ => decide (op = astB o) && chkE c a l && chkE c b r | _ => false
  | .neg a, e => match e with | .UnaryOp .USub l _ => chkE c a l | _ => false
  | .notV a, e => match e with | .UnaryOp .Not l _ => chkE c a l | _ => false
  | .cmp o a b, e => match e with | .Compare l [op] [r] _ => decide (op = astC o) && chkE c a l && chkE c b r | _ => false
  | .chn o p a b d, e => match e with | .Compare l [op, op'] [r, r'] _ => decide (op = astC o) && decide (op' = astC p) && chkE c a l && chkE c b r && chkE c d r' | _ => false
  | .isN a, e => match e with | .Compare l [.Is] [.Constant .none _ _] _ => chkE c a l | _ => false
  | .notN a, e => match e with | .Compare l [.IsNot] [.Constant .none _ _] _ => chkE c a l | _ => false
  | .andV as, e => match e with | .BoolOp .And es _ => chkA c as es | _ => false
  | .orV as, e => match e with | .BoolOp .Or es _ => chkA c as es | _ => false
  | .ife t a b, e => match e with | .IfExp q l r _ => chkT c t q && chkE c a l && chkE c b r | _ => false
  | .call f as, e => match e with
    | .Call (.Name x _) es [] _ => (match c.P.fns[f]? with | some k => k.glob && decide (k.name = x) | none => false) && c.glb x && chkA c as es
    | _ => false
  | .mk k as, e => match e with
    | .Call (.Name x _) es [] _ => (match c.P.cls[k]? with | some k => decide (k.name = x) | none => false) && c.glb x && chkA c as es
    | _ => false
  | .meth o m as, e => match e with
    | .Call (.Attribute l x apos) es [] pos => c.nmd m x && okBase l && decide (es.length < 30) && (apos.endLine == pos.line) && chkE c o l && chkA c as es
    | _ => false
  | .bi f as, e => match e with
    | .Call (.Name x _) es [] _ => decide (x = biN f) && c.blt x && !es.isEmpty && chkA c as es
    | _ => false
  | .bm f o as, e => match e with
    | .Call (.Attribute l x apos) es [] pos => decide (x = bmN f) && okBase l && decide (es.length < 30) && (apos.endLine == pos.line) && (es.isEmpty == decide (f = .pop)) && chkE c o l && chkA c as es
    | _ => false
  | .isi a t, e => match e with
    | .Call (.Name x _) [l, .Name y _] [] _ => decide (x = "isinstance") && c.blt x && decide (y = Str.ofString (tyN t)) && c.blt y && chkE c a l
    | _ => false
  | .fld o f, e => match e with | .Attribute l x _ => c.nmd f x && okBase l && chkE c o l | _ => false
  | .ix o i, e => match e with | .Subscript l r _ => chkE c o l && chkE c i r | _ => false
  | .sl o lo hi, e => match e with | .Subscript l (.Slice lo' hi' none _) _ => chkE c o l && chkO c lo lo' && chkO c hi hi' | _ => false
  | .tup as, e => match e with | .Tuple es _ _ => chkA c as es | _ => false
  | .lst _ as, e => match e with | .List es _ => chkA c as es | _ => false
  | .lc _ g it t a, e => match e with
    | .ListComp l [⟨tg, iter, ifs, 0⟩] scope _ => chkI c it iter && blkC c.N c.sc scope (ownOf c g) && chkG (c.blk scope) g tg && chkIfs (c.blk scope) t ifs && chkE (c.blk scope) a l
    | _ => false
  | .frz a, e => chkE c a e
  | .lrg _ a, e => match e with | .Call (.Name x _) [.Call (.Name y _) [l] [] _] [] _ => decide (x = "list") && c.blt x && decide (y = "range") && c.blt y && chkE c a l | _ => false
  | .lrg2 _ a b, e => match e with | .Call (.Name x _) [.Call (.Name y _) [l, r] [] _] [] _ => decide (x = "list") && c.blt x && decide (y = "range") && c.blt y && chkE c a l && chkE c b r | _ => false
  | .trg a, e => match e with | .Call (.Name x _) [.Call (.Name y _) [l] [] _] [] _ => decide (x = "tuple") && c.blt x && decide (y = "range") && c.blt y && chkE c a l | _ => false
  | .trg2 a b, e => match e with | .Call (.Name x _) [.Call (.Name y _) [l, r] [] _] [] _ => decide (x = "tuple") && c.blt x && decide (y = "range") && c.blt y && chkE c a l && chkE c b r | _ => false
  | .dnew _, e => match e with | .Dict [] [] _ => true | _ => false
def chkA (c : Ck) : Xps → List Expr → Bool
  | .nil, es => match es with | [] => true | _ => false
  | .cons a r, es => match es with | e :: es => chkE c a e && chkA c r es | _ => false
def chkO (c : Ck) : Op → Option Expr → Bool
  | .no, e => match e with | none => true | _ => false
  | .so a, e => match e with | some e => chkE c a e | _ => false
def chkT (c : Ck) : Tp → Expr → Bool
  | .val a, e => plainT e && chkE c a e
  | .cmp o a b, e => match e with | .Compare l [op] [r] _ => decide (op = astC o) && chkE c a l && chkE c b r | _ => false
  | .chn o p a b d, e => match e with | .Compare l [op, op'] [r, r'] _ => decide (op = astC o) && decide (op' = astC p) && chkE c a l && chkE c b r && chkE c d r' | _ => false
  | .isN a, e => match e with | .Compare l [.Is] [.Constant .none _ _] _ => chkE c a l | _ => false
  | .notN a, e => match e with | .Compare l [.IsNot] [.Constant .none _ _] _ => chkE c a l | _ => false
  | .tnot t, e => match e with | .UnaryOp .Not l _ => chkT c t l | _ => false
  | .tand ts, e => match e with | .BoolOp .And es _ => chkTs c ts es | _ => false
  | .tor ts, e => match e with | .BoolOp .Or es _ => chkTs c ts es | _ => false
def chkTs (c : Ck) : Tps → List Expr → Bool
  | .nil, _ => false
  | .cons t .nil, es => match es with | [e] => chkT c t e | _ => false
  | .cons t (.cons u r), es => match es with | e :: e' :: es => chkT c t e && chkTs c (.cons u r) (e' :: es) | _ => false
def chkIfs (c : Ck) : Tps → List Expr → Bool
  | .nil, es => match es with | [] => true | _ => false
  | .cons t .nil, es => match es with | [e] => chkT c t e | _ => false
  | _, _ => false
def chkI (c : Ck) : Ip → Expr → Bool
  | .val a, e => chkE c a e
  | .rng1 a, e => match e with | .Call (.Name x _) [l] [] _ => decide (x = "range") && c.blt x && chkE c a l | _ => false
  | .rng2 a b, e => match e with | .Call (.Name x _) [l, r] [] _ => decide (x = "range") && c.blt x && chkE c a l && chkE c b r | _ => false
end

def plainX : Expr → Bool | .Starred .. => false | .Set .. => false | .Slice .. => false | _ => true
theorem chk_plain {c : Ck} : ∀ (x : Xp) (e : Expr), chkE c x e = true → plainX e = true
  | .frz a, e, h => chk_plain a e (by rw [chkE] at h; exact h)
  | .non, e, h => by cases e <;> first | rfl | (simp [chkE] at h; done)
  | .bl _, e, h => by cases e <;> first | rfl | (simp [chkE] at h; done)
  | .int _, e, h => by cases e <;> first | rfl | (simp [chkE] at h; done)
  | .str _, e, h => by cases e <;> first | rfl | (simp [chkE] at h; done)
  | .v _, e, h => by cases e <;> first | rfl | (simp [chkE] at h; done)
  | .bin _ _ _, e, h => by cases e <;> first | rfl | (simp [chkE] at h; done)
  | .neg _, e, h => by cases e <;> first | rfl | (simp [chkE] at h; done)
  | .notV _, e, h => by cases e <;> first | rfl | (simp [chkE] at h; done)
  | .cmp _ _ _, e, h => by cases e <;> first | rfl | (simp [chkE] at h; done)
  | .chn _ _ _ _ _, e, h => by cases e <;> first | rfl | (simp [chkE] at h; done)
  | .isN _, e, h => by cases e <;> first | rfl | (simp [chkE] at h; done)
  | .notN _, e, h => by cases e <;> first | rfl | (simp [chkE] at h; done)
  | .andV _, e, h => by cases e <;> first | rfl | (simp [chkE] at h; done)
  | .orV _, e, h => by cases e <;> first | rfl | (simp [chkE] at h; done)
  | .ife _ _ _, e, h => by cases e <;> first | rfl | (simp [chkE] at h; done)
  | .call _ _, e, h => by cases e <;> first | rfl | (simp [chkE] at h; done)
  | .mk _ _, e, h => by cases e <;> first | rfl | (simp [chkE] at h; done)
  | .meth _ _ _, e, h => by cases e <;> first | rfl | (simp [chkE] at h; done)
  | .bi _ _, e, h => by cases e <;> first | rfl | (simp [chkE] at h; done)
  | .bm _ _ _, e, h => by cases e <;> first | rfl | (simp [chkE] at h; done)
  | .isi _ _, e, h => by cases e <;> first | rfl | (simp [chkE] at h; done)
  | .fld _ _, e, h => by cases e <;> first | rfl | (simp [chkE] at h; done)
  | .ix _ _, e, h => by cases e <;> first | rfl | (simp [chkE] at h; done)
  | .sl _ _ _, e, h => by cases e <;> first | rfl | (simp [chkE] at h; done)
  | .tup _, e, h => by cases e <;> first | rfl | (simp [chkE] at h; done)
  | .lst _ _, e, h => by cases e <;> first | rfl | (simp [chkE] at h; done)
  | .lc _ _ _ _ _, e, h => by cases e <;> first | rfl | (simp [chkE] at h; done)
  | .lrg _ _, e, h => by cases e <;> first | rfl | (simp [chkE] at h; done)
  | .lrg2 _ _ _, e, h => by cases e <;> first | rfl | (simp [chkE] at h; done)
  | .trg _, e, h => by cases e <;> first | rfl | (simp [chkE] at h; done)
  | .trg2 _ _, e, h => by cases e <;> first | rfl | (simp [chkE] at h; done)
  | .dnew _, e, h => by cases e <;> first | rfl | (simp [chkE] at h; done)
theorem plainX_star {e : Expr} (h : plainX e = true) : noStar e = true := by cases e <;> first | rfl | cases h
theorem plainX_set {e : Expr} (h : plainX e = true) : noSet e = true := by cases e <;> first | rfl | cases h
theorem plainX_slice {e : Expr} (h : plainX e = true) : noSlice e = true := by cases e <;> first | rfl | cases h
theorem chkA_star {c : Ck} : ∀ (as : Xps) (es : List Expr), chkA c as es = true → es.all noStar = true
  | .nil, es, h => by cases es with | nil => rfl | cons _ _ => simp [chkA] at h
  | .cons a r, es, h => by
    cases es with
    | nil => simp [chkA] at h
    | cons e es =>
      rw [chkA, Bool.and_eq_true] at h
      rw [List.all_cons, plainX_star (chk_plain a e h.1), chkA_star r es h.2]; rfl
end G

/-! GSnd -/
set_option maxRecDepth 100000
set_option maxHeartbeats 4000000
namespace G
open PySem PySem.Spec PyProof.Rows L2

end G
namespace L2
open PySem PySem.Spec PyProof.Rows
theorem PE.imp {cx : Cx} {e : Expr} {t t' : TE} (h : PE cx e t) (i : ∀ σ H Q, t' σ H Q → t σ H Q) : PE cx e t' := ⟨fun pins s σ H Q I q => h.run pins s σ H Q I (i σ H Q q)⟩
theorem PT.imp {cx : Cx} {e : Expr} {t t' : TT} (h : PT cx e t) (i : ∀ σ H Q, t' σ H Q → t σ H Q) : PT cx e t' := ⟨fun pins s σ H Q I q => h.run pins s σ H Q I (i σ H Q q)⟩
theorem PW.imp {cx : Cx} {e : Expr} {t t' : TT} (h : PW cx e t) (i : ∀ σ H Q, t' σ H Q → t σ H Q) : PW cx e t' := ⟨fun wh pins s σ H Q I q => h.run wh pins s σ H Q I (i σ H Q q)⟩
theorem PA.imp {cx : Cx} {e : List Expr} {t t' : TA} (h : PA cx e t) (i : ∀ σ H Q, t' σ H Q → t σ H Q) : PA cx e t' := ⟨fun pos pins s σ H Q I q => h.run pos pins s σ H Q I (i σ H Q q)⟩
theorem PO.imp {cx : Cx} {e : Option Expr} {t t' : TO} (h : PO cx e t) (i : ∀ σ H Q, t' σ H Q → t σ H Q) : PO cx e t' := ⟨fun pins s σ H Q I q => h.run pins s σ H Q I (i σ H Q q)⟩

end L2
namespace G
open PySem PySem.Spec PyProof.Rows L2
/-- what is known of the whole text -/
structure Gz extends Gy where
  wf : Nat
  fa : Nat → Addr

/-- a def's promise: what its run says -/
def spR (Z : Gz) (n f : Nat) : Sp := fun vs H Q E => ∃ al M ds, Sto Z.toGx H al M ∧ Reps Z.K H al M ds vs ∧ Po Z.toGy (rE Z.toGy) (fun cls d _ H' => E cls d H') [] H al M Q (callF Z.P Z.wf n f ds M)

structure FnG (Z : Gz) (cx : Cx) (n f : Nat) : Prop where
  ex : ∃ (fd : FuncData) (ps : List Str), FnOk cx.prog cx.w cx.K cx.mg cx.base (L2.CX cx.prog cx.w) (2 * n + 1) (Z.fa f) fd ps (spR Z n f) ∧ Binds cx.K fd ps []
  kp : PySem.W.keepIn cx.K (.ref (Z.fa f)) = true
/-- an exception's __init__: the fields of the new object, the last one first -/
def spX (Z : Gz) (k : Nat) (e : Er) : Sp := fun vs H Q E => ∃ (a : Addr) (us : List V), vs = .ref a :: us ∧ us.length = e.flds.length ∧ H a = some (exo a (Z.ec k) none) ∧
  ∀ d, H d = none → d ≠ a → Q .non (upd (upd H d (exd d ((e.flds.map Z.nm).zip us.reverse))) a (exo a (Z.ec k) (some d)))
structure ErG (Z : Gz) (cx : Cx) (n k : Nat) (e : Er) : Prop where
  ex : OexC cx.K (Z.ec k) ∧ ∃ (fI : Addr) (fd : FuncData) (ps : List Str), PySem.W.findIn cx.K (.ref (Z.ec k)) "__init__" = some (some (.ref fI)) ∧ PySem.W.typeIn cx.K (.ref fI) = some (.type "function") ∧
    FnOk cx.prog cx.w cx.K cx.mg cx.base (L2.CX cx.prog cx.w) (2 * n + 1) fI fd ps (spX Z k e) ∧ Binds cx.K fd ps []
  fl : ∀ f ∈ e.flds, f < Z.P.nms.length
  ne : e.flds ≠ []
  few : e.flds.length ≤ 900
/-- the text's facts, for bodies whose calls are n deep -/
structure Lnk (Z : Gz) (cx : Cx) (n : Nat) : Prop where
  K : cx.K = Z.K
  fn : ∀ f k, Z.P.fns[f]? = some k → FnG Z cx n f
  fnm : ∀ f k, Z.P.fns[f]? = some k → k.glob = true → cx.mg k.name = some (.ref (Z.fa f))
  blt : ∀ x ∈ blts, cx.mg x = none
  clm : ∀ c k, Z.P.cls[c]? = some k → cx.mg k.name = some (.ref (Z.cl c))
  cls : ∀ c k, Z.P.cls[c]? = some k → Cls cx.K (Z.cl c)
  mks : ∀ c k, Z.P.cls[c]? = some k → Mk cx.K (Z.cl c) (Z.fa k.init) ∧ ∃ j, Z.P.fns[k.init]? = some j
  meth : ∀ c k m g, Z.P.cls[c]? = some k → findM m k.meths = some g → Meth cx.K (Z.cl c) (Z.nm m) (Z.fa g) ∧ ∃ j, Z.P.fns[g]? = some j
  ers : ∀ k e, Z.P.ers[k]? = some e → ErG Z cx n k e
  erm : ∀ k e, Z.P.ers[k]? = some e → cx.mg e.name = some (.ref (Z.ec k))
  exm : ∀ c e k e', Z.P.ers[c]? = some e → Z.P.ers[k]? = some e' → PySem.W.exmOne cx.K (.ref (Z.ec c)) (.ref (Z.ec k)) = some (e.ups.contains k)
  xfc : ∀ k e, Z.P.ers[k]? = some e → XfC cx.K (Z.ec k) ∧ ∀ f ∈ e.flds, PySem.W.findIn cx.K (.ref (Z.ec k)) (Z.nm f) = some none
  noat : ∀ c k f, Z.P.cls[c]? = some k → f ∈ k.flds → NoAttr cx.K (Z.cl c) (Z.nm f)
  nms : Z.P.nms.Nodup
structure Good (Z : Gz) (c : Ck) (cx : Cx) (n : Nat) : Prop where
  lnk : Lnk Z cx n
  P : c.P = Z.P
  sc : cx.env.scope = c.sc
  N : cx.N = c.N
  nd : c.N.Nodup
  fn : cx.fn = c.fn
  calm : cx.calm = true
  room : Room (2 * n + 2) cx.A
theorem Good.gl {Z : Gz} {c : Ck} {cx : Cx} {n : Nat} (g : Good Z c cx n) {x : Str} (h : c.glb x = true) : Gl cx x ∧ (x == ("__debug__" : Str)) = false := by
  unfold Ck.glb at h
  rw [Bool.and_eq_true] at h
  obtain ⟨h1, h2⟩ := h
  refine ⟨?_, by simpa using h2⟩
  show cx.env.scope.names.lookup x = _
  rw [g.sc]
  split at h1
  · assumption
  · cases h1
theorem Good.bl {Z : Gz} {c : Ck} {cx : Cx} {n : Nat} (g : Good Z c cx n) {x : Str} (h : c.blt x = true) : Gl cx x ∧ (x == ("__debug__" : Str)) = false ∧ x ≠ "__name__" := by
  unfold Ck.blt at h
  rw [Bool.and_eq_true] at h
  obtain ⟨h1, h2⟩ := g.gl h.1
  exact ⟨h1, h2, by simpa using h.2⟩
theorem Good.units {Z : Gz} {c : Ck} {cx : Cx} {n : Nat} (g : Good Z c cx n) : cx.A.units + 64 < cLine := g.room.units
theorem Good.vis {Z : Gz} {c : Ck} {cx : Cx} {n : Nat} (g : Good Z c cx n) {x : Str} (h : c.vis x = true) : Vis cx.env.scope x := by
  unfold Ck.vis at h
  unfold Vis
  rw [g.sc]
  split at h <;> first | exact .inl (by assumption) | exact .inr (.inl (by assumption)) | exact .inr (.inr (by assumption)) | cases h
theorem Good.loc {Z : Gz} {c : Ck} {cx : Cx} {n : Nat} (g : Good Z c cx n) {x : Str} (h : c.loc x = true) : L2.Loc cx.env.scope x := by
  unfold Ck.loc at h
  unfold L2.Loc
  rw [g.sc]
  split at h <;> first | exact .inl (by assumption) | exact .inr (by assumption) | cases h

section
variable {X : Cx} {CX : CXT} {k : Nat} {f C : Addr} {fd : FuncData} {ps : List Str} {sp : Sp} {E : L2.St → XK} {x m : Str} {p pos apos : Pos} {e o : Expr} {es : List Expr} {ta : TE} {t : TA}
theorem pe_callW (F : FnOk X.prog X.w X.K X.mg X.base CX k f fd ps sp) (hr : Room k X.A) (hg : Gl X x) (hm : X.mg x = some (.ref f)) (hk : PySem.W.keepIn X.K (.ref f) = true) (hb : Binds X.K fd ps []) (hx : ∀ σ, PassesAt CX X σ (E σ))
    (ha : PA X (e :: es) t) (hdb : (x == ("__debug__" : Str)) = false) (hs : (e :: es).all noStar = true) : PE X (.Call (.Name x p) (e :: es) [] pos) (tCallS sp E t) := by
  rw [List.all_cons, Bool.and_eq_true] at hs
  exact pe_callS F hr hg hm hk hb hx ha hdb (starEach_cons hs.1) (star_plain hs.2)
theorem pe_callW0 (F : FnOk X.prog X.w X.K X.mg X.base CX k f fd ps sp) (hr : Room k X.A) (hg : Gl X x) (hm : X.mg x = some (.ref f)) (hk : PySem.W.keepIn X.K (.ref f) = true) (hb : Binds X.K fd ps []) (hx : ∀ σ, PassesAt CX X σ (E σ))
    (hdb : (x == ("__debug__" : Str)) = false) : PE X (.Call (.Name x p) [] [] pos) (tCallS sp E tNil) := by
  refine ⟨fun pins s σ H Q I h => ?_⟩
  refine wpAny_Call_Name_kw (ld_glob I hg hm ?_ hdb)
  exact PySem.W.callWith_K0 I.kIn hk (run_fnS F hr hb (hx σ) I .nil h)

def tMethW (C : Addr) (m : Str) (sp : Sp) (E : L2.St → XK) (ta : TE) (t : TA) : TE := fun σ H Q => ta σ H fun x H1 => ∃ a dx fs, x = .ref a ∧ H1 a = some (.ins C dx fs) ∧ fs.lookup m = none ∧
  t σ H1 fun vs H2 => sp (x :: vs) H2 Q (E σ)
/-- o.m(..), the class known behind o -/
def tMethD (K : PySem.W.Frag) (P : Program) (w : World) (mg : Str → Option Value) (base : Heap) (CX : CXT) (k : Nat) (m : Str) (E : L2.St → XK) (ta : TE) (t : TA) : TE := fun σ H Q => ta σ H fun x H1 =>
  ∃ a C dx fs f fd ps sp, x = .ref a ∧ H1 a = some (.ins C dx fs) ∧ fs.lookup m = none ∧ Cls K C ∧ Meth K C m f ∧ FnOk P w K mg base CX k f fd ps sp ∧ Binds K fd ps [] ∧ t σ H1 fun vs H2 => sp (x :: vs) H2 Q (E σ)
theorem pe_methD (he : PE X o ta) (hr : Room k X.A) (hx : ∀ σ, PassesAt CX X σ (E σ)) (ha : PA X (e :: es) t)
    (hb : okBase o = true) (hs : (e :: es).all noStar = true) (hn : (e :: es).length < 30) (hl : (apos.endLine == pos.line) = true) :
    PE X (.Call (.Attribute o m apos) (e :: es) [] pos) (tMethD X.K X.prog X.w X.mg X.base CX k m E ta t) := by
  obtain ⟨pl, ht⟩ := meth_ev (m := m) (env := X.env) hb hs hn hl
  have hs' := hs
  rw [List.all_cons, Bool.and_eq_true] at hs'
  refine ⟨fun pins s σ H Q I h => ?_⟩
  refine PySem.W.methodCall_KW (pl := pl) (thn (he.run pins s σ H _ I h) fun u s1 ⟨x, H1, I1, rx, a, C, dx, fs, f, fd, ps, sp, ex, ea, l, c, hm, F, hb, q⟩ => ?_) ht
  subst ex
  obtain rfl : u = Value.ref a := rx
  refine getmeth_ok I1 ea c hm l ?_
  refine PySem.W.callWith_K (first := [.ref a]) (h₀ := X.base) I.ok.mod.kin hm.kp (thn (ha.run pos pins s1 σ H1 _ I1 q) fun us s2 ⟨vs, H2, I2, r, q2⟩ => ⟨I2.kIn, ?_⟩) (starEach_cons hs'.1) (star_plain hs'.2)
  exact run_fnS (us := .ref a :: us) (vs := .ref a :: vs) F hr hb (hx σ) I2 (.cons rfl r) q2
theorem pe_methD0 (he : PE X o ta) (hr : Room k X.A) (hx : ∀ σ, PassesAt CX X σ (E σ))
    (hb : okBase o = true) (hl : (apos.endLine == pos.line) = true) :
    PE X (.Call (.Attribute o m apos) [] [] pos) (tMethD X.K X.prog X.w X.mg X.base CX k m E ta tNil) := by
  obtain ⟨pl, ht⟩ := meth_ev (m := m) (env := X.env) (es := []) hb rfl (by decide) hl
  refine ⟨fun pins s σ H Q I h => ?_⟩
  refine PySem.W.methodCall_KW (pl := pl) (thn (he.run pins s σ H _ I h) fun u s1 ⟨x, H1, I1, rx, a, C, dx, fs, f, fd, ps, sp, ex, ea, l, c, hm, F, hb, q⟩ => ?_) ht
  subst ex
  obtain rfl : u = Value.ref a := rx
  refine getmeth_ok I1 ea c hm l ?_
  exact PySem.W.callWith_K0 (first := [.ref a]) I1.kIn hm.kp (run_fnS (us := [.ref a]) (vs := [.ref a]) F hr hb (hx σ) I1 (.cons rfl .nil) q)

def tMakeW (C : Addr) (sp : Sp) (E : L2.St → XK) (t : TA) : TE := fun σ H Q => t σ H fun vs H1 => ∀ x dx, H1 x = none → H1 dx = none → dx ≠ x →
  sp (.ref x :: vs) (upd (upd H1 dx (.own x)) x (.ins C dx [])) (fun v H2 => v = .non ∧ Q (.ref x) H2) (E σ)
theorem run_makeW {pins : List (Addr × Obj)} {σ : L2.St} {H : Hp} {s : Shared} {Q : VK} {us : List Value} {vs : List V} {E : XK} (M : Mk X.K C f) (F : FnOk X.prog X.w X.K X.mg X.base CX k f fd ps sp) (hr : Room (k + 1) X.A) (hb : Binds X.K fd ps [])
    (hx : PassesAt CX X σ E) (I : Inv X pins σ H s) (r : Vals vs us)
    (h : ∀ x dx, H x = none → H dx = none → dx ≠ x → sp (.ref x :: vs) (upd (upd H dx (.own x)) x (.ins C dx [])) (fun v H2 => v = .non ∧ Q (.ref x) H2) E) :
    wpAny (model X.prog X.w) X.A (call (.ref C) us) (EP X pins σ Q) X.xe s := by
  have hq := h (s.heap.objs.size + 1) s.heap.objs.size (I.hok.fresh (Nat.le_succ _)) (I.hok.fresh (Nat.le_refl _)) (Nat.ne_of_lt (Nat.lt_succ_self _))
  have I2 := Inv.made (C := C) I
  have r2 : Vals (V.ref (s.heap.objs.size + 1) :: vs) (Value.ref (s.heap.objs.size + 1) :: us) := .cons rfl r
  have hl : (Value.ref (s.heap.objs.size + 1) :: us).length = ps.length := by
    have e := r2.length
    rw [F.len _ _ _ _ hq] at e
    exact e.symm
  have b := hb _ (Value.ref (s.heap.objs.size + 1) :: us) I2.kIn (by rw [List.append_nil]; exact hl)
  rw [List.append_nil] at b
  refine wpAny_call (make_map (f := f) I.kIn M.makes M.init (beq_iff_eq.mp M.fn) (codeAny_mono (F.run _ X.stack _ _ ⟨Value.ref (s.heap.objs.size + 1) :: us, []⟩ (Value.ref (s.heap.objs.size + 1) :: us) _ _ E (hr.make C us [])
    (I2.env0.make C us []) b r2 hq) fun r s' hq' => ?_))
  cases r with
  | error e => exact hx pins _ _ e s' I2 hq'
  | ok fl =>
    cases fl with
    | ret u =>
      obtain ⟨v, H', I3, rv, ev, q3⟩ := I2.after hq'
      subst ev
      exact ⟨rv, ⟨V.ref (s.heap.objs.size + 1), H', I3, rfl, q3⟩⟩
    | next => exact False.elim hq'
    | brk => exact False.elim hq'
    | cont => exact False.elim hq'
theorem pe_makeW (M : Mk X.K C f) (F : FnOk X.prog X.w X.K X.mg X.base CX k f fd ps sp) (hr : Room (k + 1) X.A) (hg : Gl X x) (hm : X.mg x = some (.ref C)) (hb : Binds X.K fd ps []) (hx : ∀ σ, PassesAt CX X σ (E σ))
    (ha : PA X (e :: es) t) (hdb : (x == ("__debug__" : Str)) = false) (hs : (e :: es).all noStar = true) : PE X (.Call (.Name x p) (e :: es) [] pos) (tMakeW C sp E t) := by
  rw [List.all_cons, Bool.and_eq_true] at hs
  refine ⟨fun pins s σ H Q I h => ?_⟩
  refine wpAny_Call_Name_kw (ld_glob I hg hm ?_ hdb)
  refine PySem.W.callWith_K (h₀ := X.base) I.ok.mod.kin M.kp (thn (ha.run pos pins s σ H _ I h) fun us s1 ⟨vs, H1, I1, r, q⟩ => ⟨I1.kIn, ?_⟩) (starEach_cons hs.1) (star_plain hs.2)
  exact run_makeW M F hr hb (hx σ) I1 r q
theorem pe_makeW0 (M : Mk X.K C f) (F : FnOk X.prog X.w X.K X.mg X.base CX k f fd ps sp) (hr : Room (k + 1) X.A) (hg : Gl X x) (hm : X.mg x = some (.ref C)) (hb : Binds X.K fd ps []) (hx : ∀ σ, PassesAt CX X σ (E σ))
    (hdb : (x == ("__debug__" : Str)) = false) : PE X (.Call (.Name x p) [] [] pos) (tMakeW C sp E tNil) := by
  refine ⟨fun pins s σ H Q I h => ?_⟩
  refine wpAny_Call_Name_kw (ld_glob I hg hm ?_ hdb)
  exact PySem.W.callWith_K0 I.kIn M.kp (run_makeW (us := []) M F hr hb (hx σ) I .nil h)
end
end G

/-! GExpS -/
set_option maxRecDepth 100000
set_option maxHeartbeats 4000000
namespace G
open PySem PySem.Spec PyProof.Rows L2

theorem tG.mono {α β : Type} {X : Gy} {R : Rl α β} {W : WX} {f : Rho → Store → Res α} {σ : L2.St} {H : Hp} {Q Q' : β → Hp → Prop} (h : tG X R W f σ H Q) (hq : ∀ v H', Q v H' → Q' v H') : tG X R W f σ H Q' := by
  obtain ⟨al, ρ, M, S, E, p⟩ := h
  exact ⟨al, ρ, M, S, E, p.mono hq⟩
theorem Po.slot {α β : Type} {X : Gy} {R : Rl α β} {W : WX} {σ σ' : L2.St} {H : Hp} {al : Am} {M : Store} {Q : β → Hp → Prop} {r : Res α} (h : Po X R W σ H al M Q r) : Po X R (fun c d _ H => W c d σ H) σ' H al M Q r := by
  cases r <;> exact h

section
variable {Z : Gz} {K : PySem.W.Frag} {H : Hp} {al : Am} {M : Store}
theorem nm_inj {X : Gx} (hn : X.P.nms.Nodup) {i j : Nat} (hi : i < X.P.nms.length) (hj : j < X.P.nms.length) (e : X.nm i = X.nm j) : i = j := by
  unfold Gx.nm at e
  rw [List.getD_eq_getElem?_getD, List.getD_eq_getElem?_getD, List.getElem?_eq_getElem hi, List.getElem?_eq_getElem hj] at e
  exact (List.getElem_inj hn).mp e
theorem lookup_cons {x y : Str} {v : V} {r : List (Str × V)} : List.lookup x ((y, v) :: r) = if x = y then some v else List.lookup x r := by
  by_cases h : x = y
  · subst h; simp [List.lookup]
  · have hb : (x == y) = false := beq_eq_false_iff_ne.mpr h
    simp only [List.lookup, hb, if_neg h]
theorem Fsr.get {X : Gx} (hn : X.P.nms.Nodup) {f : Nat} (hf : f < X.P.nms.length) : ∀ {fs : List (Nat × D)} {vs : List (Str × V)}, (∀ p ∈ fs, p.1 < X.P.nms.length) → Fsr X.nm K H al M fs vs →
    (∀ d, getF f fs = some d → ∃ v, vs.lookup (X.nm f) = some v ∧ Rep K H al M d v) ∧ (getF f fs = none → vs.lookup (X.nm f) = none)
  | [], vs, _, r => by
    have e : vs = [] := r
    subst e
    exact ⟨fun d e => by simp [getF] at e, fun _ => rfl⟩
  | p :: fs, vs, hl, r => by
    obtain ⟨v, r', e, h1, h2⟩ := r
    subst e
    have ih := Fsr.get hn hf (fun q hq => hl q (List.mem_cons_of_mem _ hq)) h2
    have hp := hl p List.mem_cons_self
    by_cases hpf : p.1 = f
    · refine ⟨fun d e => ⟨v, ?_, ?_⟩, fun e => ?_⟩
      · rw [lookup_cons, if_pos (by rw [hpf])]
      · rw [show getF f (p :: fs) = some p.2 by obtain ⟨a, b⟩ := p; simp [getF, show a = f from hpf]] at e
        cases e; exact h1
      · obtain ⟨a, b⟩ := p
        simp [getF, show a = f from hpf] at e
    · have hne : ¬ X.nm f = X.nm p.1 := fun q => hpf (nm_inj hn hp hf q.symm)
      rw [lookup_cons, if_neg hne]
      obtain ⟨a, b⟩ := p
      rw [show getF f ((a, b) :: fs) = getF f fs by simp [getF, show ¬ a = f from hpf]]
      exact ih
theorem Fsr.set {X : Gx} (hn : X.P.nms.Nodup) {f : Nat} (hf : f < X.P.nms.length) {d : D} {v : V} (rd : Rep K H al M d v) : ∀ {fs : List (Nat × D)} {vs : List (Str × V)}, (∀ p ∈ fs, p.1 < X.P.nms.length) → Fsr X.nm K H al M fs vs →
    Fsr X.nm K H al M (setF f d fs) (putF (X.nm f) v vs) ∧ ∀ p ∈ setF f d fs, p.1 < X.P.nms.length
  | [], vs, _, r => by
    have e : vs = [] := r
    subst e
    exact ⟨⟨v, [], rfl, rd, rfl⟩, fun p hp => by simp [setF] at hp; rw [hp]; exact hf⟩
  | p :: fs, vs, hl, r => by
    obtain ⟨u, r', e, h1, h2⟩ := r
    subst e
    obtain ⟨i1, i2⟩ := Fsr.set hn hf rd (fun q hq => hl q (List.mem_cons_of_mem _ hq)) h2
    have hp := hl p List.mem_cons_self
    obtain ⟨a, b⟩ := p
    by_cases hpf : a = f
    · subst hpf
      have e1 : setF a d ((a, b) :: fs) = (a, d) :: fs := by simp [setF]
      have e2 : putF (X.nm a) v ((X.nm a, u) :: r') = (X.nm a, v) :: r' := by simp [putF]
      rw [e1]
      refine ⟨?_, fun q hq => ?_⟩
      · rw [e2]
        exact ⟨v, r', rfl, rd, h2⟩
      · rcases List.mem_cons.mp hq with rfl | hq
        · exact hp
        · exact hl q (List.mem_cons_of_mem _ hq)
    · have hne : ¬ X.nm a = X.nm f := fun q => hpf (nm_inj hn hp hf q)
      have e1 : setF f d ((a, b) :: fs) = (a, b) :: setF f d fs := by simp [setF, hpf]
      have e2 : putF (X.nm f) v ((X.nm a, u) :: r') = (X.nm a, u) :: putF (X.nm f) v r' := by simp [putF, hne]
      rw [e1]
      refine ⟨?_, fun q hq => ?_⟩
      · rw [e2]
        exact ⟨u, _, rfl, h1, i1⟩
      · rcases List.mem_cons.mp hq with rfl | hq
        · exact hp
        · exact i2 q hq
end
theorem Ck.nmd_of {c : Ck} {Z : Gz} (e : c.P = Z.P) {i : Nat} {x : Str} (h : c.nmd i x = true) : x = Z.nm i ∧ i < Z.P.nms.length := by
  unfold Ck.nmd at h
  rw [decide_eq_true_eq, e] at h
  obtain ⟨h1, h2⟩ := List.getElem?_eq_some_iff.mp h
  refine ⟨?_, h1⟩
  unfold Gx.nm
  rw [List.getD_eq_getElem?_getD, List.getElem?_eq_getElem h1]
  exact h2.symm

section
variable {Z : Gz} {n : Nat}
noncomputable abbrev rnE (Z : Gz) (n : Nat) (x : Xp) : Rho → Store → Res D := fun ρ M => runE Z.P Z.wf (callF Z.P Z.wf n) ρ x M
noncomputable abbrev rnA (Z : Gz) (n : Nat) (x : Xps) : Rho → Store → Res (List D) := fun ρ M => runA Z.P Z.wf (callF Z.P Z.wf n) ρ x M
noncomputable abbrev rnT (Z : Gz) (n : Nat) (x : Tp) : Rho → Store → Res Bool := fun ρ M => runT Z.P Z.wf (callF Z.P Z.wf n) ρ x M
noncomputable abbrev rnTs (Z : Gz) (n : Nat) (x : Tps) : Rho → Store → Res Bool := fun ρ M => runTs Z.P Z.wf (callF Z.P Z.wf n) ρ x M
noncomputable abbrev rnTo (Z : Gz) (n : Nat) (x : Tps) : Rho → Store → Res Bool := fun ρ M => runTo Z.P Z.wf (callF Z.P Z.wf n) ρ x M
noncomputable abbrev rnO (Z : Gz) (n : Nat) (x : Op) : Rho → Store → Res (Option Int) := fun ρ M => runO Z.P Z.wf (callF Z.P Z.wf n) ρ x M
abbrev PEz (Z : Gz) (n : Nat) (cx : Cx) (W : WX) (x : Xp) (e : Expr) : Prop := PE cx e (tE Z.toGy W (rnE Z n x))
abbrev PTz (Z : Gz) (n : Nat) (cx : Cx) (W : WX) (x : Tp) (e : Expr) : Prop := PT cx e (tT Z.toGy W (rnT Z n x))
abbrev PAz (Z : Gz) (n : Nat) (cx : Cx) (W : WX) (x : Xps) (e : List Expr) : Prop := PA cx e (tA Z.toGy W (rnA Z n x))

variable {cx : Cx} {c : Ck} {W : WX} {pos : Pos}
theorem z_c {v : V} {d : D} {e : Expr} {x : Xp} (h : PE cx e (tC v)) (hr : ∀ H al M, rE Z.toGy H al M d v) (hx : ∀ ρ M, rnE Z n x ρ M = .ok d M) : PEz Z n cx W x e := h.imp fun σ H Q h => by
  obtain ⟨al, ρ, M, S, E, p⟩ := h
  rw [hx] at p
  exact p.ok S (hr H al M)
theorem z_bin {o : Bop} {a b : Xp} {l r : Expr} (g : Good Z c cx n) (ha : PEz Z n cx W a l) (hb : PEz Z n cx W b r) : PEz Z n cx W (.bin o a b) (.BinOp l (astB o) r pos) := (pe_op (op_rB o) ha hb).imp fun σ H Q h => by
  unfold rnE at h; simp only [runE] at h
  refine (tG_two h).mono fun x H1 h1 => h1.mono ?_
  rintro y H2 ⟨al, M, a, b, S, r1, r2, p⟩
  rw [g.lnk.K]
  exact bop_sem S r1 r2 p
theorem z_neg {a : Xp} {l : Expr} (ha : PEz Z n cx W a l) : PEz Z n cx W (.neg a) (.UnaryOp .USub l pos) := (pe_un un_neg ha).imp fun σ H Q h => by
  unfold rnE at h; simp only [runE] at h
  refine (tG_one (R := rE Z.toGy) h).mono ?_
  rintro x H1 ⟨al, M, a, S, r1, p⟩
  split at p
  · cases rep_int (X := Z.toGy) r1; exact ⟨_, rfl, p.ok S int_rep⟩
  · exact p.elim
theorem z_notV {a : Xp} {l : Expr} (ha : PEz Z n cx W a l) : PEz Z n cx W (.notV a) (.UnaryOp .Not l pos) := (pe_not ha).imp fun σ H Q h => by
  unfold rnE at h; simp only [runE] at h
  refine (tG_one (R := rE Z.toGy) h).mono ?_
  rintro x H1 ⟨al, M, a, S, r1, p⟩
  split at p
  · cases rep_bl (X := Z.toGy) r1; exact ⟨_, rfl, p.ok S bl_rep⟩
  · exact p.elim
theorem z_cmp {o : Cop} {a b : Xp} {l r : Expr} (g : Good Z c cx n) (hs : noSet r = true) (ha : PEz Z n cx W a l) (hb : PEz Z n cx W b r) : PEz Z n cx W (.cmp o a b) (.Compare l [astC o] [r] pos) := (pe_cmpR (op_rC g.units o) ha hb (behind_of hs)).imp fun σ H Q h => by
  unfold rnE at h; simp only [runE] at h
  refine (tG_two h).mono fun x H1 h1 => h1.mono ?_
  rintro y H2 ⟨al, M, a, b, S, r1, r2, p⟩
  rw [g.lnk.K]
  exact cop_sem S r1 r2 p
theorem z_tcmp {o : Cop} {a b : Xp} {l r : Expr} (g : Good Z c cx n) (hs : noSet r = true) (ha : PEz Z n cx W a l) (hb : PEz Z n cx W b r) : PTz Z n cx W (.cmp o a b) (.Compare l [astC o] [r] pos) := (pt_cmpR (op_rC g.units o) ha hb (behind_of hs)).imp fun σ H Q h => by
  unfold rnT at h; simp only [runT] at h
  refine (tG_two h).mono fun x H1 h1 => h1.mono ?_
  rintro y H2 ⟨al, M, a, b, S, r1, r2, p⟩
  rw [g.lnk.K]
  refine cop_sem S r1 r2 (Po.mono (Po.bind p) ?_)
  rintro z H3 ⟨al3, M3, d, s3, S3, r3, p3⟩
  dsimp only at p3; split at p3
  · cases rep_bl (X := Z.toGy) r3; exact ⟨_, rfl, p3.ok S3 rfl⟩
  · exact p3.elim
/-- a op b op c -/
theorem chn_sem {α β : Type} {R : Rl α β} {o p : Cop} {fa fb fc : Rho → Store → Res D} {k : D → Store → Res α} {kf : Store → Res α} {σ : L2.St} {H : Hp} {Q : β → Hp → Prop} {Qz : VK}
    (h : tG Z.toGy R W (fun ρ M => (fa ρ M).bind fun x M1 => (fb ρ M1).bind fun y M2 => (cmpop o x y M2).bind fun z M3 => match z with
      | .bl true => (fc ρ M3).bind fun u M4 => (cmpop p y u M4).bind k
      | .bl false => kf M3
      | _ => .stuck) σ H Q)
    (hk : ∀ al M d z H', Sto Z.toGx H' al M → Rep Z.K H' al M d z → Po Z.toGy R W σ H' al M Q (k d M) → Qz z H') (hf : ∀ al M H', Sto Z.toGx H' al M → Po Z.toGy R W σ H' al M Q (kf M) → Qz (.bl false) H') :
    tChain (rC Z.K o) (rC Z.K p) (tE Z.toGy W fa) (tE Z.toGy W fb) (tE Z.toGy W fc) σ H Qz := by
  obtain ⟨al, ρ, M, S, E, q⟩ := h
  refine ⟨al, ρ, M, S, E, (Po.bind (R := rE Z.toGy) q).mono ?_⟩
  rintro x H1 ⟨al1, M1, a, s1, S1, r1, q1⟩
  refine ⟨al1, ρ, M1, S1, E.mono S s1, (Po.bind (R := rE Z.toGy) q1).mono ?_⟩
  rintro y H2 ⟨al2, M2, b, s2, S2, r2, q2⟩
  have r1' := Rep.mono S1 s2 _ _ r1
  refine cop_sem S2 r1' r2 ((Po.bind (R := rE Z.toGy) q2).mono ?_)
  rintro z H3 ⟨al3, M3, d, s3, S3, r3, q3⟩
  have r2' := Rep.mono S2 s3 _ _ r2
  have E3 := (E.mono S s1).mono S1 (s2.trans s3)
  dsimp only at q3
  split at q3
  · cases rep_bl (X := Z.toGy) r3
    refine ⟨true, rfl, iteT ⟨al3, ρ, M3, S3, E3, (Po.bind (R := rE Z.toGy) q3).mono ?_⟩⟩
    rintro u H4 ⟨al4, M4, e, s4, S4, r4, q4⟩
    refine cop_sem S4 (Rep.mono S3 s4 _ _ r2') r4 ((Po.bind (R := rE Z.toGy) q4).mono ?_)
    rintro z' H5 ⟨al5, M5, d5, s5, S5, r5, q5⟩
    exact hk al5 M5 d5 z' H5 S5 r5 q5
  · cases rep_bl (X := Z.toGy) r3
    exact ⟨false, rfl, iteF (hf al3 M3 H3 S3 q3)⟩
  · exact q3.elim
theorem Res.bind_ret {α : Type} (r : Res α) : r.bind (fun a M => .ok a M) = r := by cases r <;> rfl
theorem z_chn {o p : Cop} {a b d : Xp} {l r r' : Expr} (g : Good Z c cx n) (hs : noSet r' = true) (ha : PEz Z n cx W a l) (hb : PEz Z n cx W b r) (hd : PEz Z n cx W d r') : PEz Z n cx W (.chn o p a b d) (.Compare l [astC o, astC p] [r, r'] pos) :=
  (pe_chain (op_rC g.units o) (op_rC g.units p) ha hb hd (lastMarks2 hs)).imp fun σ H Q h => by
    unfold rnE at h; simp only [runE] at h
    rw [g.lnk.K]
    refine chn_sem (R := rE Z.toGy) (Q := Q) (k := fun z M => .ok z M) (kf := fun M => .ok (.bl false) M) ?_ (fun al M d z H' S r q => q.ok S r) (fun al M H' S q => q.ok S bl_rep)
    simp only [Res.bind_ret]
    exact h
theorem z_tchn {o p : Cop} {a b d : Xp} {l r r' : Expr} (g : Good Z c cx n) (hs : noSet r' = true) (ha : PEz Z n cx W a l) (hb : PEz Z n cx W b r) (hd : PEz Z n cx W d r') : PTz Z n cx W (.chn o p a b d) (.Compare l [astC o, astC p] [r, r'] pos) :=
  (pt_chain (op_rC g.units o) (op_rC g.units p) ha hb hd (lastMarks2 hs)).imp fun σ H Q h => by
    unfold rnT at h; simp only [runT] at h
    rw [g.lnk.K]
    refine chn_sem (R := rId) (Q := Q) (k := fun z M => match z with | .bl k => .ok k M | _ => .stuck) (kf := fun M => .ok false M) ?_ (fun al M d z H' S r q => ?_) (fun al M H' S q => ⟨false, rfl, q.ok S rfl⟩)
    · exact h
    · split at q
      · cases rep_bl (X := Z.toGy) r; exact ⟨_, rfl, q.ok S rfl⟩
      · exact q.elim
theorem non_iff {X : Gy} {H : Hp} {al : Am} {M : Store} {d : D} {v : V} (r : Rep X.K H al M d v) : decide (v = .non) = (match d with | .non => true | _ => false) := by
  cases d with
  | non => cases rep_non r; rfl
  | bl b => cases rep_bl r; rfl
  | int i => cases rep_int r; rfl
  | str x => cases rep_str r; rfl
  | tup xs => obtain ⟨a, vs, rfl, _⟩ := tup_at r; rfl
  | lst xs => rw [Rep] at r; obtain ⟨a, vs, rfl, _⟩ := r; rfl
  | scr ns => rw [Rep] at r; obtain ⟨a, rfl, _⟩ := r; rfl
  | ptr n => rw [Rep] at r; obtain ⟨a, rfl, _⟩ := r; rfl
theorem z_isN {a : Xp} {l : Expr} {k : Nat} {p' : Pos} (ha : PEz Z n cx W a l) : PEz Z n cx W (.isN a) (.Compare l [.Is] [.Constant .none k p'] pos) := (pe_cmp (pc_isN ha) rfl).imp fun σ H Q h => by
  unfold rnE at h; simp only [runE] at h
  refine (tG_one (R := rE Z.toGy) h).mono ?_
  rintro x H1 ⟨al, M, a, S, r1, p⟩
  rw [non_iff (X := Z.toGy) r1]
  have := p.ok S bl_rep
  cases a <;> exact this
theorem z_notN {a : Xp} {l : Expr} {k : Nat} {p' : Pos} (ha : PEz Z n cx W a l) : PEz Z n cx W (.notN a) (.Compare l [.IsNot] [.Constant .none k p'] pos) := (pe_cmp (pc_notN ha) rfl).imp fun σ H Q h => by
  unfold rnE at h; simp only [runE] at h
  refine (tG_one (R := rE Z.toGy) h).mono ?_
  rintro x H1 ⟨al, M, a, S, r1, p⟩
  rw [non_iff (X := Z.toGy) r1]
  have := p.ok S bl_rep
  cases a <;> exact this
theorem z_tisN {a : Xp} {l : Expr} {k : Nat} {p' : Pos} (ha : PEz Z n cx W a l) : PTz Z n cx W (.isN a) (.Compare l [.Is] [.Constant .none k p'] pos) := (pt_cmp (pc_isN ha) rfl).imp fun σ H Q h => by
  unfold rnT at h; simp only [runT] at h
  refine (tG_one (R := rE Z.toGy) h).mono ?_
  rintro x H1 ⟨al, M, a, S, r1, p⟩
  refine ⟨_, rfl, ?_⟩
  rw [non_iff (X := Z.toGy) r1]
  have := p.ok S rfl
  cases a <;> exact this
theorem z_tnotN {a : Xp} {l : Expr} {k : Nat} {p' : Pos} (ha : PEz Z n cx W a l) : PTz Z n cx W (.notN a) (.Compare l [.IsNot] [.Constant .none k p'] pos) := (pt_cmp (pc_notN ha) rfl).imp fun σ H Q h => by
  unfold rnT at h; simp only [runT] at h
  refine (tG_one (R := rE Z.toGy) h).mono ?_
  rintro x H1 ⟨al, M, a, S, r1, p⟩
  refine ⟨_, rfl, ?_⟩
  rw [non_iff (X := Z.toGy) r1]
  have := p.ok S rfl
  cases a <;> exact this
theorem z_ife {t : Tp} {a b : Xp} {q l r : Expr} (ht : PTz Z n cx W t q) (ha : PEz Z n cx W a l) (hb : PEz Z n cx W b r) : PEz Z n cx W (.ife t a b) (.IfExp q l r pos) := (pe_ifExp ht ha hb).imp fun σ H Q h => by
  unfold rnE at h; simp only [runE] at h
  refine (tG_then (R := rId) (f := rnT Z n t) (g := fun ρ k M1 => match k with | true => rnE Z n a ρ M1 | false => rnE Z n b ρ M1) h).mono ?_
  rintro k H1 ⟨al, ρ, M, k', S, E, e, p⟩
  cases e
  cases k with
  | true => exact iteT ⟨al, ρ, M, S, E, p⟩
  | false => exact iteF ⟨al, ρ, M, S, E, p⟩
theorem z_val {a : Xp} {e : Expr} (g : Good Z c cx n) (hp : plainT e = true) (ha : PEz Z n cx W a e) : PTz Z n cx W (.val a) e := (pt_truth ha (plainT_of hp)).imp fun σ H Q h => by
  unfold rnT at h; simp only [runT] at h
  refine (tG_one (R := rE Z.toGy) h).mono ?_
  rintro x H1 ⟨al, M, a, S, r1, p⟩
  split at p
  · rename_i b e1
    refine ⟨b, ?_, p.ok S rfl⟩
    rw [g.lnk.K]
    exact truth_sem S r1 e1
  · exact p.elim
theorem z_tnot {t : Tp} {e : Expr} (ht : PTz Z n cx W t e) : PTz Z n cx W (.tnot t) (.UnaryOp .Not e pos) := (pt_not ht).imp fun σ H Q h => by
  unfold rnT at h; simp only [runT] at h
  refine (tG_one (R := rId) h).mono ?_
  rintro k H1 ⟨al, M, k', S, e, p⟩
  cases e
  exact p.ok S rfl
end
end G

/-! GExpT -/
set_option maxRecDepth 100000
set_option maxHeartbeats 4000000
namespace G
open PySem PySem.Spec PyProof.Rows L2
section
variable {Z : Gz} {n : Nat} {cx : Cx} {c : Ck} {W : WX} {pos : Pos}
theorem z_nilA : PAz Z n cx W .nil [] := pa_nil.imp fun σ H Q h => by
  obtain ⟨al, ρ, M, S, E, p⟩ := h
  simp only [rnA, runA] at p
  exact p.ok S Reps.nil
theorem z_consA {a : Xp} {r : Xps} {e : Expr} {es : List Expr} (hs : noStar e = true) (ha : PEz Z n cx W a e) (hr : PAz Z n cx W r es) : PAz Z n cx W (.cons a r) (e :: es) := (pa_cons ha hr (starEach_cons hs)).imp fun σ H Q h => by
  unfold rnA at h; simp only [runA] at h
  refine (tG_then (R := rE Z.toGy) (f := rnE Z n a) (g := fun ρ x M1 => (rnA Z n r ρ M1).bind fun xs M2 => .ok (x :: xs) M2) h).mono ?_
  rintro v H1 ⟨al, ρ, M, d, S, E, r1, p⟩
  refine ⟨al, ρ, M, S, E, (Po.bind (R := rA Z.toGy) p).mono ?_⟩
  rintro vs H2 ⟨al2, M2, ds, s2, S2, r2, p2⟩
  exact p2.ok S2 (Reps.cons (Rep.mono S s2 _ _ r1) r2)

theorem z_and1 {a : Xp} {e : Expr} (ha : PEz Z n cx W a e) : PEz Z n cx W (.andV (.cons a .nil)) (.BoolOp .And [e] pos) := (pe_one ha).imp fun σ H Q h => by
  unfold rnE at h; simp only [runE, runAnd] at h; exact h
theorem z_or1 {a : Xp} {e : Expr} (ha : PEz Z n cx W a e) : PEz Z n cx W (.orV (.cons a .nil)) (.BoolOp .Or [e] pos) := (pe_one ha).imp fun σ H Q h => by
  unfold rnE at h; simp only [runE, runOr] at h; exact h
theorem z_and2 {a b : Xp} {r : Xps} {e e' : Expr} {es : List Expr} (ha : PEz Z n cx W a e) (hb : PEz Z n cx W (.andV (.cons b r)) (.BoolOp .And (e' :: es) pos)) : PEz Z n cx W (.andV (.cons a (.cons b r))) (.BoolOp .And (e :: e' :: es) pos) :=
  (pe_and ha hb).imp fun σ H Q h => by
    unfold rnE at h; simp only [runE, runAnd] at h
    refine (tG_then (R := rE Z.toGy) (f := rnE Z n a) (g := fun ρ x M1 => match x with | .bl true => runAnd Z.P Z.wf (callF Z.P Z.wf n) ρ (.cons b r) M1 | .bl false => .ok (.bl false) M1 | _ => .stuck) h).mono ?_
    rintro v H1 ⟨al, ρ, M, d, S, E, r1, p⟩
    try dsimp only at p
    split at p
    · cases rep_bl (X := Z.toGy) r1
      refine ⟨true, rfl, iteT ⟨al, ρ, M, S, E, ?_⟩⟩
      simp only [rnE, runE]; exact p
    · cases rep_bl (X := Z.toGy) r1
      exact ⟨false, rfl, iteF (p.ok S bl_rep)⟩
    · exact p.elim
theorem z_or2 {a b : Xp} {r : Xps} {e e' : Expr} {es : List Expr} (ha : PEz Z n cx W a e) (hb : PEz Z n cx W (.orV (.cons b r)) (.BoolOp .Or (e' :: es) pos)) : PEz Z n cx W (.orV (.cons a (.cons b r))) (.BoolOp .Or (e :: e' :: es) pos) :=
  (pe_or ha hb).imp fun σ H Q h => by
    unfold rnE at h; simp only [runE, runOr] at h
    refine (tG_then (R := rE Z.toGy) (f := rnE Z n a) (g := fun ρ x M1 => match x with | .bl false => runOr Z.P Z.wf (callF Z.P Z.wf n) ρ (.cons b r) M1 | .bl true => .ok (.bl true) M1 | _ => .stuck) h).mono ?_
    rintro v H1 ⟨al, ρ, M, d, S, E, r1, p⟩
    try dsimp only at p
    split at p
    · cases rep_bl (X := Z.toGy) r1
      refine ⟨false, rfl, iteF ⟨al, ρ, M, S, E, ?_⟩⟩
      simp only [rnE, runE]; exact p
    · cases rep_bl (X := Z.toGy) r1
      exact ⟨true, rfl, iteT (p.ok S bl_rep)⟩
    · exact p.elim
theorem z_tand1 {a : Tp} {e : Expr} (ha : PTz Z n cx W a e) : PW cx (.BoolOp .And [e] pos) (tT Z.toGy W (rnTs Z n (.cons a .nil))) := (pw_and1 ha).imp fun σ H Q h => by
  unfold rnTs at h; simp only [runTs] at h; exact h
theorem z_tor1 {a : Tp} {e : Expr} (ha : PTz Z n cx W a e) : PW cx (.BoolOp .Or [e] pos) (tT Z.toGy W (rnTo Z n (.cons a .nil))) := (pw_or1 ha).imp fun σ H Q h => by
  unfold rnTo at h; simp only [runTo] at h; exact h
theorem z_tand2 {a b : Tp} {r : Tps} {e e' : Expr} {es : List Expr} (ha : PTz Z n cx W a e) (hb : PW cx (.BoolOp .And (e' :: es) pos) (tT Z.toGy W (rnTs Z n (.cons b r)))) : PW cx (.BoolOp .And (e :: e' :: es) pos) (tT Z.toGy W (rnTs Z n (.cons a (.cons b r)))) :=
  (pw_and ha hb).imp fun σ H Q h => by
    unfold rnTs at h; simp only [runTs] at h
    refine (tG_then (R := rId) (f := rnT Z n a) (g := fun ρ k M1 => match k with | true => rnTs Z n (.cons b r) ρ M1 | false => .ok false M1) h).mono ?_
    rintro k H1 ⟨al, ρ, M, d, S, E, e, p⟩
    cases e
    cases k with
    | true => exact iteT ⟨al, ρ, M, S, E, p⟩
    | false => exact iteF (p.ok S rfl)
theorem z_tor2 {a b : Tp} {r : Tps} {e e' : Expr} {es : List Expr} (ha : PTz Z n cx W a e) (hb : PW cx (.BoolOp .Or (e' :: es) pos) (tT Z.toGy W (rnTo Z n (.cons b r)))) : PW cx (.BoolOp .Or (e :: e' :: es) pos) (tT Z.toGy W (rnTo Z n (.cons a (.cons b r)))) :=
  (pw_or ha hb).imp fun σ H Q h => by
    unfold rnTo at h; simp only [runTo] at h
    refine (tG_then (R := rId) (f := rnT Z n a) (g := fun ρ k M1 => match k with | true => .ok true M1 | false => rnTo Z n (.cons b r) ρ M1) h).mono ?_
    rintro k H1 ⟨al, ρ, M, d, S, E, e, p⟩
    cases e
    cases k with
    | true => exact iteT (p.ok S rfl)
    | false => exact iteF ⟨al, ρ, M, S, E, p⟩

theorem z_call {f : Nat} {k : Fn} {as : Xps} {es : List Expr} {x : Str} {p : Pos} (g : Good Z c cx n) (tk : Takes cx W) (hf : Z.P.fns[f]? = some k) (hgl : k.glob = true) (hx : k.name = x) (hc : c.glb x = true) (hst : es.all noStar = true)
    (hl : (as = .nil ∧ es = []) ∨ ∃ e es', es = e :: es') (ha : PAz Z n cx W as es) : PEz Z n cx W (.call f as) (.Call (.Name x p) es [] pos) := by
  obtain ⟨⟨fd, ps, F, hb⟩, kp⟩ := g.lnk.fn f k hf
  have hm := g.lnk.fnm f k hf hgl
  rw [hx] at hm
  obtain ⟨hg, hdb⟩ := g.gl hc
  have hr : Room (2 * n + 1) cx.A := g.room.mono (by omega)
  rcases hl with ⟨rfl, rfl⟩ | ⟨e, es', rfl⟩
  · refine (pe_callW0 F hr hg hm kp hb (fun σ => passAt tk σ) hdb).imp fun σ H Q h => ?_
    unfold rnE at h; simp only [runE, runA, bind_ok] at h
    obtain ⟨al, ρ, M, S, E, q⟩ := h
    exact ⟨al, M, [], S, Reps.nil, q.slot⟩
  · refine (pe_callW F hr hg hm kp hb (fun σ => passAt tk σ) ha hdb hst).imp fun σ H Q h => ?_
    unfold rnE at h; simp only [runE] at h
    refine (tG_one (R := rA Z.toGy) h).mono ?_
    rintro vs H1 ⟨al, M, ds, S, r, q⟩
    exact ⟨al, M, ds, S, r, q.slot⟩
theorem mk_sem {k : Nat} {kl : Cl} {ds : List D} {vs : List V} {σ : L2.St} {H : Hp} {al : Am} {M : Store} {Q : VK} (S : Sto Z.toGx H al M) (r : Reps Z.K H al M ds vs)
    (p : Po Z.toGy (rE Z.toGy) W σ H al M Q ((callF Z.P Z.wf n kl.init (.ptr M.length :: ds) (M ++ [.ins k []])).bind fun r M2 => match r with | .non => .ok (.ptr M.length) M2 | _ => .stuck)) :
    ∀ x dx, H x = none → H dx = none → dx ≠ x → spR Z n kl.init (.ref x :: vs) (upd (upd H dx (.own x)) x (.ins (Z.cl k) dx [])) (fun v H2 => v = .non ∧ Q (.ref x) H2) (WE W σ) := by
  intro x dx hx hdx hne
  have s1 : Stp H al M (upd H dx (.own x)) al M := Stp.cold S hdx
  have S1 : Sto Z.toGx (upd H dx (.own x)) al M := S.cold hdx
  have hx1 : upd H dx (.own x) x = none := by rw [upd_ne (Ne.symm hne)]; exact hx
  have s2 : Stp (upd H dx (.own x)) al M (upd (upd H dx (.own x)) x (.ins (Z.cl k) dx [])) (al.add x) (M ++ [.ins k []]) := Stp.alloc S1 hx1
  have S2 : Sto Z.toGx (upd (upd H dx (.own x)) x (.ins (Z.cl k) dx [])) (al.add x) (M ++ [.ins k []]) := S1.alloc hx1 ⟨dx, [], upd_same, rfl, fun p hp => absurd hp (by simp)⟩
  have hget : (al.add x).ad[M.length]? = some x := by rw [← S.len]; simp [Am.add]
  refine ⟨al.add x, M ++ [.ins k []], .ptr M.length :: ds, S2, ?_, ?_⟩
  · refine Reps.cons ?_ (Reps.mono S1 s2 _ _ (Reps.mono S s1 _ _ r))
    rw [Rep]; exact ⟨x, rfl, hget⟩
  · refine (((Po.step p (s1.trans s2)).bind (R := rE Z.toGy)).mono ?_).slot
    rintro v H3 ⟨al3, M3, d, s3, S3, r3, p3⟩
    try dsimp only at p3
    split at p3
    · cases rep_non (X := Z.toGy) r3
      refine ⟨rfl, p3.ok S3 ?_⟩
      show Rep _ _ _ _ _ _
      rw [Rep]; exact ⟨x, rfl, s3.get hget⟩
    · exact p3.elim
theorem z_mk {k : Nat} {kl : Cl} {as : Xps} {es : List Expr} {x : Str} {p : Pos} (g : Good Z c cx n) (tk : Takes cx W) (hk : Z.P.cls[k]? = some kl) (hx : kl.name = x) (hc : c.glb x = true) (hst : es.all noStar = true)
    (hl : (as = .nil ∧ es = []) ∨ ∃ e es', es = e :: es') (ha : PAz Z n cx W as es) : PEz Z n cx W (.mk k as) (.Call (.Name x p) es [] pos) := by
  obtain ⟨hM, j, hj⟩ := g.lnk.mks k kl hk
  obtain ⟨⟨fd, ps, F, hb⟩, kp⟩ := g.lnk.fn kl.init j hj
  have hm := g.lnk.clm k kl hk
  rw [hx] at hm
  obtain ⟨hg, hdb⟩ := g.gl hc
  rcases hl with ⟨rfl, rfl⟩ | ⟨e, es', rfl⟩
  · refine (pe_makeW0 hM F g.room hg hm hb (fun σ => passAt tk σ) hdb).imp fun σ H Q h => ?_
    unfold rnE at h; simp only [runE, runA, bind_ok, hk] at h
    obtain ⟨al, ρ, M, S, E, q⟩ := h
    exact mk_sem S Reps.nil q
  · refine (pe_makeW hM F g.room hg hm hb (fun σ => passAt tk σ) ha hdb hst).imp fun σ H Q h => ?_
    unfold rnE at h; simp only [runE, hk] at h
    refine (tG_one (R := rA Z.toGy) h).mono ?_
    rintro vs H1 ⟨al, M, ds, S, r, q⟩
    exact mk_sem S r q
theorem ins_at {H : Hp} {al : Am} {M : Store} {m k : Nat} {v : V} {fs : List (Nat × D)} (S : Sto Z.toGx H al M) (r : Rep Z.K H al M (.ptr m) v) (e : M[m]? = some (.ins k fs)) :
    ∃ a dx vfs, v = .ref a ∧ al.ad[m]? = some a ∧ H a = some (.ins (Z.cl k) dx vfs) ∧ Fsr Z.nm Z.K H al M fs vfs ∧ (∀ p ∈ fs, p.1 < Z.P.nms.length) ∧ live M m := by
  rw [Rep] at r
  obtain ⟨a, rfl, h1⟩ := r
  obtain ⟨dx, vfs, h2, h3, h4⟩ := S.at_ m _ a e h1
  exact ⟨a, dx, vfs, rfl, h1, h2, h3, h4, ⟨_, e, rfl⟩⟩
theorem z_meth {o : Xp} {m : Nat} {as : Xps} {l : Expr} {es : List Expr} {x : Str} {apos : Pos} (g : Good Z c cx n) (tk : Takes cx W) (hm : c.nmd m x = true) (hb : okBase l = true) (hn : es.length < 30) (hli : (apos.endLine == pos.line) = true) (hst : es.all noStar = true)
    (hl : (as = .nil ∧ es = []) ∨ ∃ e es', es = e :: es') (ho : PEz Z n cx W o l) (ha : PAz Z n cx W as es) : PEz Z n cx W (.meth o m as) (.Call (.Attribute l x apos) es [] pos) := by
  obtain ⟨rfl, hml⟩ := Ck.nmd_of g.P hm
  have hr : Room (2 * n + 1) cx.A := g.room.mono (by omega)
  have key : ∀ {t : TA} {σ : L2.St} {H : Hp} {Q : VK}, (∀ (σ : L2.St) (H1 : Hp) (Q : List V → Hp → Prop), tA Z.toGy W (rnA Z n as) σ H1 Q → t σ H1 Q) → tE Z.toGy W (rnE Z n (.meth o m as)) σ H Q →
      tMethD cx.K cx.prog cx.w cx.mg cx.base (L2.CX cx.prog cx.w) (2 * n + 1) (Z.nm m) (WE W) (tE Z.toGy W (rnE Z n o)) t σ H Q := by
    intro t σ H Q ht h
    unfold rnE at h; simp only [runE] at h
    refine (tG_then (R := rE Z.toGy) (f := rnE Z n o) (g := fun ρ x M1 => match x with
      | .ptr n' => match M1[n']? with
        | some (.ins c fs) => match (Z.P.cls[c]?).bind fun k => findM m k.meths with
          | some g => match getF m fs with
            | none => (rnA Z n as ρ M1).bind fun xs M2 => callF Z.P Z.wf n g (.ptr n' :: xs) M2
            | some _ => .stuck
          | none => .stuck
        | _ => .stuck
      | _ => .stuck) h).mono ?_
    rintro v H1 ⟨al, ρ, M, d, S, E, r1, p⟩
    try dsimp only at p
    split at p
    · rename_i n'
      split at p
      · rename_i kc fs e1
        split at p
        · rename_i gf e2
          split at p
          · rename_i e3
            obtain ⟨kl, hkl, hfm⟩ := Option.bind_eq_some_iff.mp e2
            obtain ⟨a, dx, vfs, rfl, h1, h2, h3, h4, _⟩ := ins_at S r1 e1
            obtain ⟨hM, j, hj⟩ := g.lnk.meth kc kl m gf hkl hfm
            obtain ⟨⟨fd, ps, F, hbd⟩, kp⟩ := g.lnk.fn gf j hj
            have hlk := (Fsr.get g.lnk.nms hml h4 h3).2 e3
            refine ⟨a, _, dx, vfs, _, fd, ps, _, rfl, h2, hlk, g.lnk.cls kc kl hkl, hM, F, hbd, ht σ H1 _ ⟨al, ρ, M, S, E, (Po.bind (R := rA Z.toGy) p).mono ?_⟩⟩
            rintro vs H2 ⟨al2, M2, ds, s2, S2, r2, p2⟩
            exact ⟨al2, M2, .ptr n' :: ds, S2, Reps.cons (Rep.mono S s2 _ _ r1) r2, p2.slot⟩
          · exact p.elim
        · exact p.elim
      · exact p.elim
    · exact p.elim
  rcases hl with ⟨rfl, rfl⟩ | ⟨e, es', rfl⟩
  · refine (pe_methD0 ho hr (fun σ => passAt tk σ) hb hli).imp fun σ H Q h => key (fun σ H1 Q h => ?_) h
    obtain ⟨al, ρ, M, S, E, q⟩ := h
    simp only [rnA, runA] at q
    exact q.ok S Reps.nil
  · exact (pe_methD ho hr (fun σ => passAt tk σ) ha hb hst hn hli).imp fun σ H Q h => key (fun σ H1 Q h => h) h

theorem biN_in : ∀ f : Bi, biN f ∈ blts
  | .len => by simp [biN, blts] | .sum => by simp [biN, blts] | .max1 => by simp [biN, blts] | .max2 => by simp [biN, blts] | .min1 => by simp [biN, blts] | .min2 => by simp [biN, blts] | .abs => by simp [biN, blts] | .int => by simp [biN, blts] | .sorted _ => by simp [biN, blts]
  | .list _ => by simp [biN, blts] | .tuple => by simp [biN, blts] | .any => by simp [biN, blts] | .all => by simp [biN, blts]
theorem pe_callV {f : Bi} {r : List V → Hp → VK → Prop} {x : Str} {e : Expr} {es : List Expr} {t : TA} {p : Pos} (hc : CallR cx (biV f) r) (hg : Gl cx x) (hm : cx.mg x = none) (hv : bootBuiltins x = some (biV f)) (ha : PA cx (e :: es) t) (hn : x ≠ "__name__") (hdb : (x == ("__debug__" : Str)) = false)
    (hs : (e :: es).all noStar = true) : PE cx (.Call (.Name x p) (e :: es) [] pos) (tCB r t) := by
  rw [List.all_cons, Bool.and_eq_true] at hs
  have h1 := starEach_cons (env := cx.env) (es := es) hs.1
  have h2 := star_plain (env := cx.env) (pos := pos) hs.2
  cases f <;> first
    | exact pe_callB hc hg hm hv ha hn hdb h1 h2
    | exact pe_callTy hc hg hm hv ha hn hdb h1 h2
theorem z_bi {f : Bi} {as : Xps} {x : Str} {e : Expr} {es : List Expr} {p : Pos} (g : Good Z c cx n) (hx : x = biN f) (hc : c.blt x = true) (hst : (e :: es).all noStar = true) (ha : PAz Z n cx W as (e :: es)) : PEz Z n cx W (.bi f as) (.Call (.Name x p) (e :: es) [] pos) := by
  subst hx
  obtain ⟨hg, hdb, hnn⟩ := g.bl hc
  refine (pe_callV (cr_rBi g.calm f) hg (g.lnk.blt _ (biN_in f)) (biBoot f) ha hnn hdb hst).imp fun σ H Q h => ?_
  unfold rnE at h; simp only [runE] at h
  refine (tG_one (R := rA Z.toGy) h).mono ?_
  rintro vs H1 ⟨al, M, ds, S, r, q⟩
  rw [g.lnk.K]
  exact bi_sem S r q
theorem z_isi {a : Xp} {t : Ty} {l : Expr} {x y : Str} {p p' : Pos} (g : Good Z c cx n) (hx : x = "isinstance") (hc : c.blt x = true) (hy : y = Str.ofString (tyN t)) (hc' : c.blt y = true) (hst : noStar l = true) (ha : PEz Z n cx W a l) :
    PEz Z n cx W (.isi a t) (.Call (.Name x p) [l, .Name y p'] [] pos) := by
  subst hx hy
  obtain ⟨hg, hdb, hnn⟩ := g.bl hc
  obtain ⟨hg', hdb', hnn'⟩ := g.bl hc'
  have hy : PE cx (.Name (Str.ofString (tyN t)) p') (tC (.ty (tyN t))) := pe_bltn hg' (g.lnk.blt _ (by cases t <;> simp [tyN, blts] <;> decide)) (tyBoot t) rfl hnn' hdb'
  have hA : PA cx [l, .Name (Str.ofString (tyN t)) p'] (tCons (tE Z.toGy W (rnE Z n a)) (tCons (tC (.ty (tyN t))) tNil)) := pa_cons ha (pa_cons hy pa_nil) (starEach_cons hst)
  refine (pe_callB call_isi hg (g.lnk.blt _ (by simp [blts])) (by decide +kernel) hA hnn hdb (starEach_cons hst) rfl).imp fun σ H Q h => ?_
  unfold rnE at h; simp only [runE] at h
  refine (tG_one (R := rE Z.toGy) h).mono ?_
  rintro v H1 ⟨al, M, d, S, r, q⟩
  split at q
  · rename_i b e
    show rIsi cx.K [v, .ty (tyN t)] H1 Q
    rw [g.lnk.K]
    exact isTy_sem S r e (q.ok S bl_rep)
  · exact q.elim
theorem z_fld {o : Xp} {f : Nat} {l : Expr} {x : Str} (g : Good Z c cx n) (hm : c.nmd f x = true) (hb : okBase l = true) (ho : PEz Z n cx W o l) : PEz Z n cx W (.fld o f) (.Attribute l x pos) := by
  obtain ⟨rfl, hml⟩ := Ck.nmd_of g.P hm
  refine (pe_fld ho (okBase_of hb)).imp fun σ H Q h => ?_
  unfold rnE at h; simp only [runE] at h
  refine (tG_one (R := rE Z.toGy) h).mono ?_
  rintro v H1 ⟨al, M, d, S, r1, p⟩
  split at p
  · split at p
    · rename_i kc fs e1
      split at p
      · rename_i hF
        split at p
        · rename_i d' e3
          obtain ⟨a, dx, vfs, rfl, h1, h2, h3, h4, _⟩ := ins_at S r1 e1
          obtain ⟨u, hu, ru⟩ := (Fsr.get g.lnk.nms hml h4 h3).1 _ e3
          unfold hasF at hF
          split at hF
          · rename_i kl hkl
            exact ⟨a, _, dx, vfs, u, rfl, h2, g.lnk.cls kc kl hkl, g.lnk.noat kc kl f hkl (by simpa using hF), hu, p.ok S ru⟩
          · cases hF
        · exact p.elim
      · exact p.elim
    · exact p.elim
  · exact p.elim
theorem z_ix {o i : Xp} {l r : Expr} (g : Good Z c cx n) (hs : noSlice r = true) (ho : PEz Z n cx W o l) (hi : PEz Z n cx W i r) : PEz Z n cx W (.ix o i) (.Subscript l r pos) := (pe_ix (ix_seq.or (ix_dict (by have := g.units; omega))) ho hi (plainIx_of hs)).imp fun σ H Q h => by
  unfold rnE at h; simp only [runE] at h
  refine (tG_two h).mono fun x H1 h1 => h1.mono ?_
  rintro y H2 ⟨al, M, a, b, S, r1, r2, p⟩
  rw [g.lnk.K]
  exact ix_sem S r1 r2 p
theorem z_no : PO cx none (tO Z.toGy W (rnO Z n .no)) := po_none.imp fun σ H Q h => by
  obtain ⟨al, ρ, M, S, E, p⟩ := h
  simp only [rnO, runO] at p
  exact p.ok S rfl
theorem z_so {a : Xp} {e : Expr} (ha : PEz Z n cx W a e) : PO cx (some e) (tO Z.toGy W (rnO Z n (.so a))) := (po_some ha).imp fun σ H Q h => by
  unfold rnO at h; simp only [runO] at h
  refine (tG_one (R := rE Z.toGy) h).mono ?_
  rintro v H1 ⟨al, M, d, S, r, q⟩
  split at q
  · cases rep_int (X := Z.toGy) r; exact ⟨_, rfl, q.ok S rfl⟩
  · exact q.elim
theorem z_sl {o : Xp} {lo hi : Op} {l : Expr} {lo' hi' : Option Expr} {p2 : Pos} (g : Good Z c cx n) (ho : PEz Z n cx W o l) (hl : PO cx lo' (tO Z.toGy W (rnO Z n lo))) (hh : PO cx hi' (tO Z.toGy W (rnO Z n hi))) : PEz Z n cx W (.sl o lo hi) (.Subscript l (.Slice lo' hi' none p2) pos) :=
  (pe_slice sl_ok ho hl hh).imp fun σ H Q h => by
    unfold rnE at h; simp only [runE] at h
    refine (tG_then (R := rE Z.toGy) (f := rnE Z n o) (g := fun ρ x M1 => (rnO Z n lo ρ M1).bind fun l M2 => (rnO Z n hi ρ M2).bind fun h M3 => sld M3 x l h) h).mono ?_
    rintro x H1 ⟨al, ρ, M, d, S, E, r1, p⟩
    refine ⟨al, ρ, M, S, E, (Po.bind (R := rId) p).mono ?_⟩
    rintro l' H2 ⟨al2, M2, l2, s2, S2, e2, p2⟩
    cases e2
    refine ⟨al2, ρ, M2, S2, E.mono S s2, (Po.bind (R := rId) p2).mono ?_⟩
    rintro h' H3 ⟨al3, M3, h2, s3, S3, e3, p3⟩
    cases e3
    rw [g.lnk.K]
    exact sl_sem S3 (Rep.mono S (s2.trans s3) _ _ r1) p3
theorem z_tup {as : Xps} {es : List Expr} {k : Nat} (ha : PAz Z n cx W as es) : PEz Z n cx W (.tup as) (.Tuple es k pos) := (pe_tup ha).imp fun σ H Q h => by
  unfold rnE at h; simp only [runE] at h
  refine (tG_one (R := rA Z.toGy) h).mono ?_
  rintro vs H1 ⟨al, M, ds, S, r, q⟩
  have hl := Reps.length r
  split at q
  · rename_i hz
    exact ⟨by rw [hl]; exact hz, fun p hp => Po.newT S r hp q⟩
  · exact q.elim
theorem z_lst {hot : Bool} {as : Xps} {es : List Expr} (ha : PAz Z n cx W as es) : PEz Z n cx W (.lst hot as) (.List es pos) := (pe_lst ha).imp fun σ H Q h => by
  unfold rnE at h; simp only [runE] at h
  refine (tG_one (R := rA Z.toGy) h).mono ?_
  rintro vs H1 ⟨al, M, ds, S, r, q⟩
  have hl := Reps.length r
  split at q
  · rename_i hz
    exact ⟨by rw [hl]; exact hz, fun p hp => Po.newL S r hp q⟩
  · exact q.elim
theorem z_frz {a : Xp} {e : Expr} (ha : PEz Z n cx W a e) : PEz Z n cx W (.frz a) e := ha.imp fun σ H Q h => by
  unfold rnE at h; simp only [runE] at h
  refine (tG_one (R := rE Z.toGy) h).mono ?_
  rintro v H1 ⟨al, M, d, S, r, q⟩
  split at q
  · rename_i m
    split at q
    · rename_i xs e1
      obtain ⟨a, vs, rfl, h1, h2, h3, l⟩ := ptr_at S r e1
      refine q al H1 _ (Stp.drop l) (S.drop l) ?_
      show Rep _ _ _ _ _ _
      rw [Rep]
      exact ⟨a, vs, rfl, h2, S.cold_of_drop l h1, Reps.mono S (Stp.drop l) _ _ h3⟩
    · exact q.elim
  · exact q.ok S r
theorem z_lrg {hot : Bool} {a : Xp} {l : Expr} {x y : Str} {p p' p2 : Pos} (g : Good Z c cx n) (hx : x = "list") (hc : c.blt x = true) (hy : y = "range") (hc' : c.blt y = true) (hst : noStar l = true) (ha : PEz Z n cx W a l) : PEz Z n cx W (.lrg hot a) (.Call (.Name x p) [.Call (.Name y p') [l] [] p2] [] pos) := by
  subst hx hy
  obtain ⟨hg, _, _⟩ := g.bl hc
  obtain ⟨hg', _, _⟩ := g.bl hc'
  refine (pe_listRg g.calm hg (g.lnk.blt _ (by simp [blts])) (prg_1 hg' (g.lnk.blt _ (by simp [blts])) ha (starEach_cons hst)) rfl).imp fun σ H Q h => ?_
  unfold rnE at h; simp only [runE] at h
  refine (tG_one (R := rE Z.toGy) h).mono ?_
  rintro v H1 ⟨al, M, d, S, r, q⟩
  split at q
  · rename_i i
    cases rep_int (X := Z.toGy) r
    split at q
    · rename_i hk
      refine ⟨i, rfl, ⟨by omega, by omega, by omega, by omega, by omega⟩, fun p hp => ?_⟩
      have e1 : rngOf 0 i = ((List.range (i - 0).toNat).map fun (j : Nat) => (0 + (j : Int))).map G.D.int := by unfold rngOf; rw [List.map_map]; rfl
      have e2 : rgV 0 i = ((List.range (i - 0).toNat).map fun (j : Nat) => (0 + (j : Int))).map V.int := by unfold rgV; rw [List.map_map]; rfl
      rw [e2]
      exact Po.newL S (by rw [e1]; exact Reps.of_ints _) hp q
    · exact q.elim
  · exact q.elim
theorem rg_reps {X : Gy} {H : Hp} {al : Am} {M : Store} (i j : Int) : Reps X.K H al M (rngOf i j) (rgV i j) := by
  have e1 : rngOf i j = ((List.range (j - i).toNat).map fun (k : Nat) => (i + (k : Int))).map G.D.int := by unfold rngOf; rw [List.map_map]; rfl
  have e2 : rgV i j = ((List.range (j - i).toNat).map fun (k : Nat) => (i + (k : Int))).map V.int := by unfold rgV; rw [List.map_map]; rfl
  rw [e1, e2]
  exact Reps.of_ints _
theorem rg_ok {i j : Int} (h : rngOk i j = true ∧ j - i ≤ 16777216) : RgOk i j := by
  obtain ⟨h1, h2⟩ := h
  unfold rngOk at h1
  simp only [Bool.and_eq_true, decide_eq_true_eq] at h1
  exact ⟨by omega, by omega, by omega, by omega, by omega⟩
theorem z_lrg2 {hot : Bool} {a b : Xp} {l r : Expr} {x y : Str} {p p' p2 : Pos} (g : Good Z c cx n) (hx : x = "list") (hc : c.blt x = true) (hy : y = "range") (hc' : c.blt y = true) (hst : noStar l = true) (hst' : noStar r = true) (ha : PEz Z n cx W a l) (hb : PEz Z n cx W b r) : PEz Z n cx W (.lrg2 hot a b) (.Call (.Name x p) [.Call (.Name y p') [l, r] [] p2] [] pos) := by
  subst hx hy
  obtain ⟨hg, _, _⟩ := g.bl hc
  obtain ⟨hg', _, _⟩ := g.bl hc'
  refine (pe_listRg g.calm hg (g.lnk.blt _ (by simp [blts])) (prg_2 hg' (g.lnk.blt _ (by simp [blts])) ha hb (starEach_cons hst) (starEach_cons hst') (star_plain (by simp [hst']))) rfl).imp fun σ H Q h => ?_
  unfold rnE at h; simp only [runE] at h
  refine (tG_two h).mono fun u H1 h1 => h1.mono ?_
  rintro w H2 ⟨al, M, d, e, S, r1, r2, q⟩
  split at q
  · rename_i i j
    cases rep_int (X := Z.toGy) r1
    cases rep_int (X := Z.toGy) r2
    split at q
    · rename_i hk
      exact ⟨i, j, rfl, rfl, rg_ok hk, fun p hp => Po.newL S (rg_reps i j) hp q⟩
    · exact q.elim
  · exact q.elim
theorem z_trg {a : Xp} {l : Expr} {x y : Str} {p p' p2 : Pos} (g : Good Z c cx n) (hx : x = "tuple") (hc : c.blt x = true) (hy : y = "range") (hc' : c.blt y = true) (hst : noStar l = true) (ha : PEz Z n cx W a l) : PEz Z n cx W (.trg a) (.Call (.Name x p) [.Call (.Name y p') [l] [] p2] [] pos) := by
  subst hx hy
  obtain ⟨hg, _, _⟩ := g.bl hc
  obtain ⟨hg', _, _⟩ := g.bl hc'
  refine (pe_tupRg g.calm hg (g.lnk.blt _ (by simp [blts])) (prg_1 hg' (g.lnk.blt _ (by simp [blts])) ha (starEach_cons hst)) rfl).imp fun σ H Q h => ?_
  unfold rnE at h; simp only [runE] at h
  refine (tG_one (R := rE Z.toGy) h).mono ?_
  rintro v H1 ⟨al, M, d, S, r, q⟩
  split at q
  · rename_i i
    cases rep_int (X := Z.toGy) r
    split at q
    · rename_i hk
      exact ⟨i, rfl, ⟨by omega, by omega, by omega, by omega, by omega⟩, fun p hp => Po.newT S (rg_reps 0 i) hp q⟩
    · exact q.elim
  · exact q.elim
theorem z_trg2 {a b : Xp} {l r : Expr} {x y : Str} {p p' p2 : Pos} (g : Good Z c cx n) (hx : x = "tuple") (hc : c.blt x = true) (hy : y = "range") (hc' : c.blt y = true) (hst : noStar l = true) (hst' : noStar r = true) (ha : PEz Z n cx W a l) (hb : PEz Z n cx W b r) : PEz Z n cx W (.trg2 a b) (.Call (.Name x p) [.Call (.Name y p') [l, r] [] p2] [] pos) := by
  subst hx hy
  obtain ⟨hg, _, _⟩ := g.bl hc
  obtain ⟨hg', _, _⟩ := g.bl hc'
  refine (pe_tupRg g.calm hg (g.lnk.blt _ (by simp [blts])) (prg_2 hg' (g.lnk.blt _ (by simp [blts])) ha hb (starEach_cons hst) (starEach_cons hst') (star_plain (by simp [hst']))) rfl).imp fun σ H Q h => ?_
  unfold rnE at h; simp only [runE] at h
  refine (tG_two h).mono fun u H1 h1 => h1.mono ?_
  rintro w H2 ⟨al, M, d, e, S, r1, r2, q⟩
  split at q
  · rename_i i j
    cases rep_int (X := Z.toGy) r1
    cases rep_int (X := Z.toGy) r2
    split at q
    · rename_i hk
      exact ⟨i, j, rfl, rfl, rg_ok hk, fun p hp => Po.newT S (rg_reps i j) hp q⟩
    · exact q.elim
  · exact q.elim
/-- a new dict -/
theorem Po.newD {X : Gy} {W : WX} {σ : L2.St} {H : Hp} {al : Am} {M : Store} {Q : VK} {tk : Bool} {u : HO} {p : Addr} (S : Sto X.toGx H al M) (r : Dcr tk X.K H al M [] u) (hp : H p = none) (h : Po X (G.rE X) W σ H al M Q (.ok (.ptr M.length) (M ++ [.dic tk []]))) : Q (.ref p) (upd H p u) := by
  have s : Stp H al M (upd H p u) (al.add p) (M ++ [.dic tk []]) := Stp.alloc S hp
  refine h _ _ _ s (S.alloc hp ⟨u, upd_same, r.mono S s⟩) ?_
  show Rep _ _ _ _ _ _
  rw [Rep]
  exact ⟨p, rfl, by rw [← S.len]; simp [Am.add]⟩
theorem z_dnew {tk : Bool} (g : Good Z c cx n) : PEz Z n cx W (.dnew tk) (.Dict [] [] pos) := by
  cases tk with
  | false =>
    refine pe_dnewK.imp fun σ H Q h => ?_
    obtain ⟨al, ρ, M, S, E, p⟩ := h
    simp only [rnE, runE] at p
    exact fun q hq => Po.newD (tk := false) S (show ∃ xs, _ from ⟨[], rfl, rfl⟩) hq p
  | true =>
    refine pe_dnewT.imp fun σ H Q h => ?_
    obtain ⟨al, ρ, M, S, E, p⟩ := h
    simp only [rnE, runE] at p
    exact fun q hq => Po.newD (tk := true) S (show ∃ xs, _ from ⟨[], rfl, rfl⟩) hq p
theorem z_bm {f : Bm} {o : Xp} {as : Xps} {l : Expr} {es : List Expr} {x : Str} {apos : Pos} (g : Good Z c cx n) (hx : x = bmN f) (hb : okBase l = true) (hn : es.length < 30) (hli : (apos.endLine == pos.line) = true) (hst : es.all noStar = true)
    (hl : (as = .nil ∧ es = [] ∧ f = .pop) ∨ ∃ e es', es = e :: es' ∧ f ≠ .pop) (ho : PEz Z n cx W o l) (ha : PAz Z n cx W as es) : PEz Z n cx W (.bm f o as) (.Call (.Attribute l x apos) es [] pos) := by
  subst hx
  have key : ∀ {t : TA} {σ : L2.St} {H : Hp} {Q : VK}, (∀ (σ : L2.St) (H1 : Hp) (Q : List V → Hp → Prop), tA Z.toGy W (rnA Z n as) σ H1 Q → t σ H1 Q) → tE Z.toGy W (rnE Z n (.bm f o as)) σ H Q →
      tE Z.toGy W (rnE Z n o) σ H (fun x H1 => tyV cx.K "list" x H1 ∧ t σ H1 fun xs H2 => rBm cx.K f x xs H2 Q) := by
    intro t σ H Q ht h
    unfold rnE at h; simp only [runE] at h
    refine (tG_then (R := rE Z.toGy) (f := rnE Z n o) (g := fun ρ x M1 => match (listOf M1 x).isSome with
      | true => (rnA Z n as ρ M1).bind fun xs M2 => bmrun f x xs M2
      | false => .stuck) h).mono ?_
    rintro v H1 ⟨al, ρ, M, d, S, E, r1, p⟩
    try dsimp only at p
    split at p
    · rename_i hs
      obtain ⟨ds, eds⟩ := Option.isSome_iff_exists.mp hs
      obtain ⟨a, vs, rfl, h1, h2⟩ := listOf_at S r1 eds
      refine ⟨.inl ⟨rfl, vs, SqL.of h1⟩, ht σ H1 _ ⟨al, ρ, M, S, E, (Po.bind (R := rA Z.toGy) p).mono ?_⟩⟩
      rintro ws H2 ⟨al2, M2, es', s2, S2, r2, p2⟩
      rw [g.lnk.K]
      exact bm_sem S2 (Rep.mono S s2 _ _ r1) r2 p2
    · exact p.elim
  rcases hl with ⟨rfl, rfl, rfl⟩ | ⟨e, es', rfl, hf⟩
  · refine (pe_bm0 PySem.F.plainAttrs_list PySem.F.slot_list_pop PySem.F.type_list_pop mt_pop ho (okBase_of hb) hli).imp fun σ H Q h => key (t := tNil) (fun σ H1 Q h => ?_) h
    obtain ⟨al, ρ, M, S, E, q⟩ := h
    simp only [rnA, runA] at q
    exact q.ok S Reps.nil
  · have hst' := hst
    rw [List.all_cons, Bool.and_eq_true] at hst'
    have h1 := starEach_cons (env := cx.env) (es := es') hst'.1
    have h2 := star_plain (env := cx.env) (pos := pos) hst'.2
    cases f with
    | append => exact (pe_bm PySem.F.plainAttrs_list PySem.F.slot_list_append PySem.F.type_list_append mt_append ho ha (okBase_of hb) (few_of hst hn) hli h1 h2).imp fun σ H Q h => key (fun σ H1 Q h => h) h
    | popAt => exact (pe_bm PySem.F.plainAttrs_list PySem.F.slot_list_pop PySem.F.type_list_pop mt_popAt ho ha (okBase_of hb) (few_of hst hn) hli h1 h2).imp fun σ H Q h => key (fun σ H1 Q h => h) h
    | pop => exact absurd rfl hf
    | index => exact (pe_bm PySem.F.plainAttrs_list PySem.F.slot_list_index PySem.F.type_list_index mt_index ho ha (okBase_of hb) (few_of hst hn) hli h1 h2).imp fun σ H Q h => key (fun σ H1 Q h => h) h
end
end G

/-! GIt -/
set_option maxRecDepth 100000
set_option maxHeartbeats 4000000
namespace L2
open PySem PySem.Spec PyProof.Rows
theorem PG.imp {cx : Cx} {e : Expr} {t t' : TG} (h : PG cx e t) (i : ∀ v σ H Q, t' v σ H Q → t v σ H Q) : PG cx e t' := ⟨fun pins s σ H v u Q I r q => h.run pins s σ H v u Q I r (i v σ H Q q)⟩
theorem PG.or {cx : Cx} {e : Expr} {t t' : TG} (h : PG cx e t) (h' : PG cx e t') : PG cx e (fun v σ H Q => t v σ H Q ∨ t' v σ H Q) := ⟨fun pins s σ H v u Q I r q => by
  rcases q with q | q
  · exact h.run pins s σ H v u Q I r q
  · exact h'.run pins s σ H v u Q I r q⟩
theorem PI.imp {cx : Cx} {tg e : Expr} {t t' : TI} (h : PI cx tg e t) (i : ∀ σ H R, t' σ H R → t σ H R) : PI cx tg e t' := ⟨fun pins s σ H R I q => h.run pins s σ H R I (i σ H R q)⟩
/-- a list or a tuple is walked -/
def iVal (K : PySem.W.Frag) (tl : TE) : TI := fun σ H R => tl σ H fun x H1 => ∃ a, x = .ref a ∧ (((∃ xs, SqL K H1 a xs) ∧ R (Itl K a) H1) ∨ ((∃ xs, SqT K H1 a xs) ∧ R (Itt K a) H1))
theorem pi_val {X : Cx} {tg l : Expr} {tl : TE} (hl : PE X l tl) : PI X tg l (iVal X.K tl) := by
  refine ⟨fun pins s σ H R I h => ?_⟩
  refine thn (hl.run pins s σ H _ I h) fun v s1 ⟨x, H1, I1, r1, q1⟩ => ?_
  obtain ⟨a, e, ⟨⟨xs, hq⟩, q⟩ | ⟨⟨xs, hq⟩, q⟩⟩ := q1
  · subst e
    cases r1
    obtain ⟨its, rv, p, hz⟩ := I1.list hq
    refine wpAny_pyIter_list p.isList ?_
    refine ⟨s1.heap.objs.size, [s1.heap.objs.size], _, _, H1, rfl, I1.kept (t' := s1.toks) fun b o e => Heap.get?_push_of_some _ e, turn_list a _, ⟨_, Heap.get?_push_size _ rfl, rfl, rfl⟩, fun b hb => ?_, q⟩
    have e : b = s1.heap.objs.size := by simpa using hb
    subst e
    exact I1.fpOk (Nat.le_refl _) (I1.hok.fresh (Nat.le_refl _))
  · subst e
    cases r1
    obtain ⟨its, rv, p, hz⟩ := I1.tuple hq
    refine wpAny_pyIter_tuple (show s1.heap.IsTuple a its.toArray from p) ?_
    refine ⟨s1.heap.objs.size, [s1.heap.objs.size], _, _, H1, rfl, I1.kept (t' := s1.toks) fun b o e => Heap.get?_push_of_some _ e, turn_tuple a _, ⟨_, Heap.get?_push_size _ rfl, rfl, rfl⟩, fun b hb => ?_, q⟩
    have e : b = s1.heap.objs.size := by simpa using hb
    subst e
    exact I1.fpOk (Nat.le_refl _) (I1.hok.fresh (Nat.le_refl _))

theorem wipe_get {σ : L2.St} {j : Nat} : ∀ {vs : List Nat}, (wipe σ vs)[j]? = if j ∈ vs ∧ j < σ.length then some none else σ[j]?
  | [] => by simp [wipe]
  | v :: vs => by
    rw [wipe]
    by_cases hv : v = j
    · subst hv
      by_cases hl : v < σ.length
      · rw [List.getElem?_set_self (by rw [wipe_length]; exact hl), if_pos ⟨List.mem_cons_self, hl⟩]
      · rw [List.getElem?_eq_none (by rw [List.length_set, wipe_length]; omega), if_neg (fun q => hl q.2), List.getElem?_eq_none (by omega)]
    · rw [List.getElem?_set_ne hv, wipe_get]
      have : j ∈ v :: vs ↔ j ∈ vs := by rw [List.mem_cons]; constructor; (intro h; rcases h with h | h; exact absurd h.symm hv; exact h); exact Or.inr
      simp only [this]
theorem wipe_set {σ : L2.St} {i : Nat} {o : Option V} {vs : List Nat} (h : i ∈ vs) : wipe (σ.set i o) vs = wipe σ vs := by
  apply List.ext_getElem?
  intro j
  rw [wipe_get, wipe_get, List.length_set]
  by_cases hj : i = j
  · subst hj
    by_cases hl : i < σ.length
    · rw [if_pos ⟨h, hl⟩, if_pos ⟨h, hl⟩]
    · rw [if_neg (fun q => hl q.2), if_neg (fun q => hl q.2), List.getElem?_eq_none (by rw [List.length_set]; omega), List.getElem?_eq_none (by omega)]
  · rw [List.getElem?_set_ne hj]
end L2
namespace G
open PySem PySem.Spec PyProof.Rows L2

def tGp (Z : Gz) (g : Gp) : TG := fun v σ H Q => ∃ al ρ M d ρ', Sto Z.toGx H al M ∧ Envr Z.K H al M σ ρ ∧ Rep Z.K H al M d v ∧ bindG g d ρ = some ρ' ∧
  ∀ σ', Envr Z.K H al M σ' ρ' → wipe σ' (gslots g) = wipe σ (gslots g) → Q σ' H
def setAll (is : List Nat) (vs : List V) (σ : L2.St) : L2.St := (is.zip vs).foldl (fun σ p => σ.set p.1 (some p.2)) σ
def gNames : List Nat → TGs
  | [] => gNil
  | i :: is => gCons (gName i) (gNames is)
theorem gNames_sem : ∀ {is : List Nat} {vs : List V} {σ : L2.St} {H : Hp} {Q : L2.St → Hp → Prop}, vs.length = is.length → Q (setAll is vs σ) H → gNames is vs σ H Q
  | [], vs, σ, H, Q, hl, h => ⟨List.eq_nil_of_length_eq_zero hl, by
      have : vs = [] := List.eq_nil_of_length_eq_zero hl
      subst this; exact h⟩
  | i :: is, [], σ, H, Q, hl, h => by cases hl
  | i :: is, v :: vs, σ, H, Q, hl, h => ⟨v, vs, rfl, gNames_sem (by simpa using hl) h⟩
theorem setAll_wipe {vs : List Nat} : ∀ {is : List Nat} {us : List V} {σ : L2.St}, (∀ i ∈ is, i ∈ vs) → wipe (setAll is us σ) vs = wipe σ vs
  | [], us, σ, _ => rfl
  | i :: is, [], σ, _ => rfl
  | i :: is, u :: us, σ, h => by
    show wipe (setAll is us (σ.set i (some u))) vs = _
    rw [setAll_wipe fun j hj => h j (List.mem_cons_of_mem _ hj), wipe_set (h i List.mem_cons_self)]
theorem setAll_env {K : PySem.W.Frag} {H : Hp} {al : Am} {M : Store} : ∀ {is : List Nat} {ds : List D} {us : List V} {σ : L2.St} {ρ : Rho}, Envr K H al M σ ρ → Reps K H al M ds us →
    Envr K H al M (setAll is us σ) ((is.zip ds).foldl (fun ρ p => ρ.set p.1 (some p.2)) ρ)
  | [], ds, us, σ, ρ, E, r => E
  | i :: is, [], us, σ, ρ, E, r => by rw [Reps] at r; subst r; exact E
  | i :: is, d :: ds, us, σ, ρ, E, r => by
    rw [Reps] at r
    obtain ⟨u, us', e, h1, h2⟩ := r
    subst e
    exact setAll_env (is := is) (E.set h1 i) h2
section
variable {Z : Gz} {n : Nat} {cx : Cx} {c : Ck} {W : WX} {pos : Pos}
theorem Ck.tgt_of (g : Good Z c cx n) {i : Nat} {x : Str} (h : c.tgt i x = true) : cx.N[i]? = some x ∧ L2.Loc cx.env.scope x ∧ (cx.fn x = true ∨ cx.env.scope.names.lookup x = some .local) := by
  unfold Ck.tgt at h
  simp only [Bool.and_eq_true, decide_eq_true_eq, Bool.or_eq_true] at h
  obtain ⟨⟨h1, h2⟩, h3⟩ := h
  rw [g.N]
  refine ⟨h1, g.loc h2, ?_⟩
  rcases h3 with h3 | h3
  · exact .inl (by rw [g.fn]; exact h3)
  · refine .inr ?_
    rw [g.sc]
    split at h3
    · assumption
    · cases h3
theorem Ck.names_of (g : Good Z c cx n) : ∀ {is : List Nat} {es : List Expr}, chkGs c is es = true → PGs cx es (gNames is) ∧ (assignEach es cx.env).length = is.length ∧ (assignEach es cx.env).findIdx? (·.1) = none
  | [], [], _ => ⟨pgs_nil, rfl, rfl⟩
  | [], _ :: _, h => by cases h
  | i :: is, [], h => by cases h
  | i :: is, e :: es, h => by
    cases e with
    | Name x p =>
      have h' : (c.tgt i x && chkGs c is es) = true := h
      rw [Bool.and_eq_true] at h'
      obtain ⟨h1, h2, h3⟩ := Ck.tgt_of g h'.1
      obtain ⟨i1, i2, i3⟩ := Ck.names_of g h'.2
      refine ⟨pgs_cons (pg_name (by rw [g.N]; exact g.nd) h1 h2 h3) i1 rfl, ?_, ?_⟩
      · show (assignEach es cx.env).length + 1 = _
        rw [i2]; rfl
      · show List.findIdx? (·.1) ((false, _) :: assignEach es cx.env) = none
        rw [List.findIdx?_cons, i3]; rfl
    | _ => cases h
theorem z_tgt (g : Good Z c cx n) {gp : Gp} {tg : Expr} (h : chkG c gp tg = true) : PG cx tg (tGp Z gp) := by
  cases gp with
  | n i =>
    cases tg with
    | Name x p =>
      obtain ⟨h1, h2, h3⟩ := Ck.tgt_of g (show c.tgt i x = true from h)
      refine (pg_name (by rw [g.N]; exact g.nd) h1 h2 h3).imp fun v σ H Q hh => ?_
      obtain ⟨al, ρ, M, d, ρ', S, E, r, e, k⟩ := hh
      simp only [bindG, Option.some.injEq] at e
      subst e
      exact k _ (E.set r i) (wipe_set List.mem_cons_self)
    | _ => cases h
  | t is =>
    cases tg with
    | Tuple es k p =>
      obtain ⟨i1, i2, i3⟩ := Ck.names_of g (show chkGs c is es = true from h)
      refine ((pg_tup (k := k) g.calm i1 i2 i3).or (pg_lst (k := k) g.calm i1 i2 i3)).imp fun v σ H Q hh => ?_
      obtain ⟨al, ρ, M, d, ρ', S, E, r, e, kk⟩ := hh
      cases d with
      | tup ds =>
        simp only [bindG] at e
        split at e
        · rename_i hl
          cases e
          obtain ⟨a, vs, rfl, h1, h2⟩ := tup_at (X := Z.toGy) r
          have hvl : vs.length = is.length := by rw [h2.length]; exact hl
          exact .inl ⟨a, vs, rfl, SqT.of h1, hvl, gNames_sem hvl (kk _ (setAll_env E h2) (setAll_wipe fun _ h => h))⟩
        · cases e
      | lst ds =>
        simp only [bindG] at e
        split at e
        · rename_i hl
          cases e
          obtain ⟨a, vs, rfl, h1, h2⟩ := listOf_at (X := Z.toGy) S r (ds := ds) rfl
          have hvl : vs.length = is.length := by rw [h2.length]; exact hl
          exact .inr ⟨a, vs, rfl, SqL.of h1, hvl, gNames_sem hvl (kk _ (setAll_env E h2) (setAll_wipe fun _ h => h))⟩
        · cases e
      | _ => simp [bindG] at e
    | _ => cases h

def rI (Z : Gz) : Rl Wk It := fun H al M k J => match k with
  | .items xs => (∃ a d, J = Itl Z.K a ∧ Rep Z.K H al M d (.ref a) ∧ (d = .lst xs ∨ ∃ ns, d = .scr ns ∧ xs = ns.map D.int)) ∨ (∃ a, J = Itt Z.K a ∧ Rep Z.K H al M (.tup xs) (.ref a)) ∨
      (∃ lo k, J = Itr lo k ∧ xs = (List.range k).map fun (i : Nat) => D.int (lo + (i : Int))) ∨ (∃ (d : Addr) (o : Obj) (kvs : List (Key × V)), J = Itk d o kvs ∧ H d = some (.frz o (.dK kvs)) ∧ xs = kvs.map fun p => kD p.1) ∨
      ∃ (d : Addr) (o : Obj) (kvs : List (List Key × V)), J = Itkt d o kvs ∧ H d = some (.frz o (.dT kvs)) ∧ xs = kvs.map fun p => tD p.1
  | .hot m => ∃ a, J = Itl Z.K a ∧ al.ad[m]? = some a
noncomputable abbrev rnI (Z : Gz) (n : Nat) (x : Ip) : Rho → Store → Res Wk := fun ρ M => runI Z.P Z.wf (callF Z.P Z.wf n) ρ x M
abbrev tI (Z : Gz) (W : WX) (f : Rho → Store → Res Wk) : TI := tG Z.toGy (rI Z) W f
theorem z_ival {a : Xp} {e tg : Expr} (g : Good Z c cx n) (ha : PEz Z n cx W a e) : PI cx tg e (tI Z W (rnI Z n (.val a))) := (pi_val ha).imp fun σ H Q h => by
  unfold rnI at h; simp only [runI] at h
  refine (tG_one (R := rE Z.toGy) h).mono ?_
  rintro v H1 ⟨al, M, d, S, r, q⟩
  rw [g.lnk.K]
  have r' : Rep Z.K H1 al M d v := r
  cases d with
  | lst xs =>
    obtain ⟨a, vs, rfl, h1, h2⟩ := listOf_at (X := Z.toGy) S r' (ds := xs) rfl
    exact ⟨a, rfl, .inl ⟨⟨vs, SqL.of h1⟩, q.ok S (.inl ⟨a, _, rfl, r', .inl rfl⟩)⟩⟩
  | tup xs =>
    obtain ⟨a, vs, rfl, h1, h2⟩ := tup_at (X := Z.toGy) r'
    exact ⟨a, rfl, .inr ⟨⟨vs, SqT.of h1⟩, q.ok S (.inr (.inl ⟨a, rfl, r'⟩))⟩⟩
  | scr ns =>
    have r2 := r'
    rw [Rep] at r2
    obtain ⟨a, rfl, h1⟩ := r2
    exact ⟨a, rfl, .inl ⟨⟨_, h1.sq⟩, q.ok S (.inl ⟨a, _, rfl, r', .inr ⟨ns, rfl, rfl⟩⟩)⟩⟩
  | ptr m =>
    simp only [walkOf] at q
    split at q
    · rename_i k e2
      split at e2
      · rename_i xs e1
        cases e2
        obtain ⟨a, vs, rfl, h0, h1, h2, _⟩ := ptr_at (X := Z.toGy) S r' e1
        exact ⟨a, rfl, .inl ⟨⟨vs, SqL.of h1⟩, q.ok S ⟨a, rfl, h0⟩⟩⟩
      · cases e2
    · exact q.elim
  | non => exact q.elim
  | bl b => exact q.elim
  | int i => exact q.elim
  | str x => exact q.elim
theorem rng_of {i j : Int} (h : rngOk i j = true) : -(2 ^ 62) ≤ i ∧ i < 2 ^ 62 ∧ -(2 ^ 62) ≤ j ∧ j < 2 ^ 62 := by
  unfold rngOk at h
  simp only [Bool.and_eq_true, decide_eq_true_eq] at h
  omega
theorem z_rng1 {a : Xp} {e tg : Expr} {x : Str} {p : Pos} (g : Good Z c cx n) (hx : x = "range") (hc : c.blt x = true) (hst : noStar e = true) (ha : PEz Z n cx W a e) : PI cx tg (.Call (.Name x p) [e] [] pos) (tI Z W (rnI Z n (.rng1 a))) := by
  subst hx
  obtain ⟨hg, _, _⟩ := g.bl hc
  have h1 := starEach_cons (env := cx.env) (es := []) hst
  refine (pi_range1 hg (g.lnk.blt _ (by simp [blts])) (pa_cons ha pa_nil h1) h1).imp fun σ H Q h => ?_
  unfold rnI at h; simp only [runI] at h
  refine (tG_one (R := rE Z.toGy) h).mono ?_
  rintro v H1 ⟨al, M, d, S, r, q⟩
  split at q
  · rename_i i
    cases rep_int (X := Z.toGy) r
    split at q
    · rename_i hk
      obtain ⟨_, _, h3, h4⟩ := rng_of hk
      refine ⟨i, rfl, h3, h4, q.ok S (.inr (.inr (.inl ⟨0, i.toNat, rfl, ?_⟩)))⟩
      unfold rngOf
      rw [Int.sub_zero]
    · exact q.elim
  · exact q.elim
theorem z_rng2 {a b : Xp} {e e' tg : Expr} {x : Str} {p : Pos} (g : Good Z c cx n) (hx : x = "range") (hc : c.blt x = true) (hst : noStar e = true) (hst' : noStar e' = true) (ha : PEz Z n cx W a e) (hb : PEz Z n cx W b e') : PI cx tg (.Call (.Name x p) [e, e'] [] pos) (tI Z W (rnI Z n (.rng2 a b))) := by
  subst hx
  obtain ⟨hg, _, _⟩ := g.bl hc
  have h2 := starEach_cons (env := cx.env) (es := []) hst'
  have h1 := starEach_cons (env := cx.env) (es := [e']) hst
  refine (pi_range2 hg (g.lnk.blt _ (by simp [blts])) (pa_cons ha (pa_cons hb pa_nil h2) h1) (by rw [h1, h2]; rfl) h2).imp fun σ H Q h => ?_
  unfold rnI at h; simp only [runI] at h
  refine (tG_two h).mono fun x H1 h1 => h1.mono ?_
  rintro y H2 ⟨al, M, a, b, S, r1, r2, q⟩
  split at q
  · rename_i i j
    cases rep_int (X := Z.toGy) r1
    cases rep_int (X := Z.toGy) r2
    split at q
    · rename_i hk
      refine ⟨i, j, rfl, rng_of hk, q.ok S (.inr (.inr (.inl ⟨i, (j - i).toNat, rfl, rfl⟩)))⟩
    · exact q.elim
  · exact q.elim
theorem rI.mono {H H' : Hp} {al al' : Am} {M M' : Store} {k : Wk} {J : It} (S : Sto Z.toGx H al M) (s : Stp H al M H' al' M') (h : rI Z H al M k J) : rI Z H' al' M' k J := by
  cases k with
  | items xs =>
    rcases h with ⟨a, d, e, r, q⟩ | ⟨a, e, r⟩ | h | ⟨d, o, kvs, e, h, q⟩ | ⟨d, o, kvs, e, h, q⟩
    · exact .inl ⟨a, d, e, Rep.mono S s _ _ r, q⟩
    · exact .inr (.inl ⟨a, e, Rep.mono S s _ _ r⟩)
    · exact .inr (.inr (.inl h))
    · exact .inr (.inr (.inr (.inl ⟨d, o, kvs, e, s.keep d _ h (S.frz_nothot h), q⟩)))
    · exact .inr (.inr (.inr (.inr ⟨d, o, kvs, e, s.keep d _ h (S.frz_nothot h), q⟩)))
  | hot m =>
    obtain ⟨a, e, h⟩ := h
    exact ⟨a, e, s.get h⟩
/-- the walk's turns, by its items -/
theorem seqL_uniq {H : Hp} {a : Addr} {vs : List V} (h : H a = some (.lst vs)) : ∀ {i : Nat} {x : V}, (∀ xs, SqL Z.K H a xs → xs[i]? = some x) → vs[i]? = some x := fun q => q vs (SqL.of h)
theorem rI_stop {H : Hp} {al : Am} {M : Store} {xs : List D} {J : It} {i : Nat} (S : Sto Z.toGx H al M) (h : rI Z H al M (.items xs) J) (hi : xs.length ≤ i) : J.stop i H := by
  rcases h with ⟨a, d, rfl, r, rfl | ⟨ns, rfl, rfl⟩⟩ | ⟨a, rfl, r⟩ | ⟨lo, k, rfl, rfl⟩ | ⟨d, o, kvs, rfl, h, rfl⟩ | ⟨d, o, kvs, rfl, h, rfl⟩
  · obtain ⟨b, vs, e, h1, h2⟩ := listOf_at (X := Z.toGy) S r (ds := xs) rfl
    cases e
    exact ⟨vs, SqL.of h1, by rw [h2.length]; exact hi⟩
  · rw [Rep] at r
    obtain ⟨b, e, h1⟩ := r
    cases e
    exact ⟨_, h1.sq, by simpa using hi⟩
  · obtain ⟨b, vs, e, h1, h2⟩ := tup_at (X := Z.toGy) r
    cases e
    exact ⟨vs, SqT.of h1, by rw [h2.length]; exact hi⟩
  · show k ≤ i
    simpa using hi
  · exact ⟨h, by simpa using hi⟩
  · exact ⟨h, by simpa using hi⟩
theorem rI_go {H : Hp} {al : Am} {M : Store} {xs : List D} {J : It} {i : Nat} {d : D} (S : Sto Z.toGx H al M) (h : rI Z H al M (.items xs) J) (hd : xs[i]? = some d) : J.go i H ∧ ∀ x H', J.yld i H x H' → H' = H ∧ Rep Z.K H al M d x := by
  rcases h with ⟨a, d0, rfl, r, rfl | ⟨ns, rfl, rfl⟩⟩ | ⟨a, rfl, r⟩ | ⟨lo, k, rfl, rfl⟩ | ⟨d0, o, kvs, rfl, h, rfl⟩ | ⟨d0, o, kvs, rfl, h, rfl⟩
  · obtain ⟨b, vs, e, h1, h2⟩ := listOf_at (X := Z.toGy) S r (ds := xs) rfl
    cases e
    obtain ⟨v, hv, rv⟩ := h2.get hd
    refine ⟨⟨vs, v, SqL.of h1, hv⟩, fun x H' y => ⟨y.1, ?_⟩⟩
    have := y.2 vs (SqL.of h1)
    rw [hv] at this; cases this; exact rv
  · rw [Rep] at r
    obtain ⟨b, e, h1⟩ := r
    cases e
    obtain ⟨v, hv, rv⟩ := (Reps.of_ints (K := Z.K) (H := H) (al := al) (M := M) ns).get hd
    refine ⟨⟨_, v, h1.sq, hv⟩, fun x H' y => ⟨y.1, ?_⟩⟩
    have := y.2 _ h1.sq
    rw [hv] at this; cases this; exact rv
  · obtain ⟨b, vs, e, h1, h2⟩ := tup_at (X := Z.toGy) r
    cases e
    obtain ⟨v, hv, rv⟩ := h2.get hd
    refine ⟨⟨vs, v, SqT.of h1, hv⟩, fun x H' y => ⟨y.1, ?_⟩⟩
    have := y.2 vs (SqT.of h1)
    rw [hv] at this; cases this; exact rv
  · rw [List.getElem?_map] at hd
    cases e : (List.range k)[i]? with
    | none => rw [e] at hd; cases hd
    | some j =>
      rw [e] at hd
      obtain ⟨hj, hj2⟩ := List.getElem?_eq_some_iff.mp e
      rw [List.getElem_range] at hj2
      subst hj2
      cases hd
      refine ⟨by show i < k; simpa using hj, fun x H' y => ⟨y.1, ?_⟩⟩
      rw [Rep]; exact y.2
  · rw [List.getElem?_map] at hd
    cases e : kvs[i]? with
    | none => rw [e] at hd; cases hd
    | some p =>
      rw [e] at hd
      cases hd
      refine ⟨⟨h, (List.getElem?_eq_some_iff.mp e).1⟩, fun x H' y => ⟨y.1, ?_⟩⟩
      obtain ⟨k, v, e2, rfl⟩ := y.2
      rw [e] at e2
      cases e2
      rcases k with j | s
      · exact int_rep (X := Z.toGy)
      · exact str_rep (X := Z.toGy)
  · rw [List.getElem?_map] at hd
    cases e : kvs[i]? with
    | none => rw [e] at hd; cases hd
    | some p =>
      rw [e] at hd
      cases hd
      refine ⟨⟨h, (List.getElem?_eq_some_iff.mp e).1⟩, fun x H' y => ⟨y.1, ?_⟩⟩
      obtain ⟨k, v, q, e2, rfl, hq⟩ := y.2
      rw [e] at e2
      cases e2
      show Rep _ _ _ _ (tD k) _
      unfold tD
      rw [Rep]
      exact ⟨q, _, rfl, hq, kDs_reps (X := Z.toGy) k⟩
theorem rI_hot {H : Hp} {al : Am} {M : Store} {m : Nat} {xs : List D} {J : It} (S : Sto Z.toGx H al M) (h : rI Z H al M (.hot m) J) (e : M[m]? = some (.lst xs)) :
    (∀ i, xs.length ≤ i → J.stop i H) ∧ ∀ i d, xs[i]? = some d → J.go i H ∧ ∀ x H', J.yld i H x H' → H' = H ∧ Rep Z.K H al M d x := by
  obtain ⟨a, rfl, h0⟩ := h
  obtain ⟨vs, h1, h2⟩ := S.at_ m _ a e h0
  refine ⟨fun i hi => ⟨vs, SqL.of h1, by rw [h2.length]; exact hi⟩, fun i d hd => ?_⟩
  obtain ⟨v, hv, rv⟩ := h2.get hd
  refine ⟨⟨vs, v, SqL.of h1, hv⟩, fun x H' y => ⟨y.1, ?_⟩⟩
  have := y.2 vs (SqL.of h1)
  rw [hv] at this; cases this; exact rv
end
end G

/-! GLc -/
set_option maxRecDepth 100000
set_option maxHeartbeats 4000000
namespace G
open PySem PySem.Spec PyProof.Rows L2

section
variable {X : Gx} {K : PySem.W.Frag} {H H' H1 : Hp} {al al' al1 : Am} {M M' M1 : Store} {D : Addr} {o : HO} {ob : Ob}
structure Soft (H : Hp) (al : Am) (M : Store) (D : Addr) : Prop where
  hot : Hot al M D
  tup : ∀ vs, H D ≠ some (.tup vs)
  frz : ∀ ob u, H D ≠ some (.frz ob u)
theorem Sto.soft (S : Sto X H al M) (hD : Hot al M D) : Soft H al M D := ⟨hD, fun vs e => S.tup_nothot e hD, fun ob u e => S.frz_nothot e hD⟩
theorem Scr.updp (S : Soft H al M D) {a : Addr} {ns : List Int} (h : Scr K H a ns) : Scr K (upd H D o) a ns := by
  rcases h with ⟨u, h⟩ | h
  · refine .inl ⟨u, ?_⟩
    rw [upd_ne]; exact h
    rintro rfl; exact S.frz _ _ h
  · exact .inr h
mutual
theorem Rep.updp (S : Soft H al M D) : ∀ (d : G.D) (v : V), Rep K H al M d v → Rep K (upd H D o) al M d v
  | .non, _, h => by rw [Rep] at h ⊢; exact h
  | .bl _, _, h => by rw [Rep] at h ⊢; exact h
  | .int _, _, h => by rw [Rep] at h ⊢; exact h
  | .str _, _, h => by rw [Rep] at h ⊢; exact h
  | .tup ds, v, h => by
    rw [Rep] at h ⊢
    obtain ⟨a, vs, e, h1, h2⟩ := h
    exact ⟨a, vs, e, by rw [upd_ne]; exact h1; rintro rfl; exact S.tup _ h1, Reps.updp S ds vs h2⟩
  | .lst ds, v, h => by
    rw [Rep] at h ⊢
    obtain ⟨a, vs, e, h1, h2, h3⟩ := h
    exact ⟨a, vs, e, by rw [upd_ne]; exact h1; rintro rfl; exact h2 S.hot, h2, Reps.updp S ds vs h3⟩
  | .scr ns, v, h => by
    rw [Rep] at h ⊢
    obtain ⟨a, e, h1⟩ := h
    exact ⟨a, e, h1.updp S⟩
  | .ptr n, v, h => by rw [Rep] at h ⊢; exact h
theorem Reps.updp (S : Soft H al M D) : ∀ (ds : List G.D) (vs : List V), Reps K H al M ds vs → Reps K (upd H D o) al M ds vs
  | [], _, h => by rw [Reps] at h ⊢; exact h
  | d :: ds, vs, h => by
    rw [Reps] at h ⊢
    obtain ⟨v, r, e, h1, h2⟩ := h
    exact ⟨v, r, e, Rep.updp S d v h1, Reps.updp S ds r h2⟩
end
theorem Fsr.updp {nm : Nat → Str} (S : Soft H al M D) : ∀ (fs : List (Nat × G.D)) (vs : List (Str × V)), Fsr nm K H al M fs vs → Fsr nm K (upd H D o) al M fs vs
  | [], _, h => h
  | p :: ds, vs, h => by
    obtain ⟨v, r, e, h1, h2⟩ := h
    exact ⟨v, r, e, Rep.updp S _ v h1, Fsr.updp S ds r h2⟩
theorem Dr.updp {κ : Type} {kf : κ → G.D} (S : Soft H al M D) : ∀ (ds : List (G.D × G.D)) (vs : List (κ × V)), Dr kf K H al M ds vs → Dr kf K (upd H D o) al M ds vs
  | [], _, h => h
  | p :: ds, vs, h => by
    obtain ⟨k, v, r, e, hk, h1, h2⟩ := h
    exact ⟨k, v, r, e, hk, Rep.updp S _ v h1, Dr.updp S ds r h2⟩
theorem Dcr.updp {tk : Bool} {kvs : List (G.D × G.D)} {u : HO} (S : Soft H al M D) (h : Dcr tk K H al M kvs u) : Dcr tk K (upd H D o) al M kvs u := by
  cases tk with
  | false => obtain ⟨xs, e, r⟩ := h; exact ⟨xs, e, r.updp S⟩
  | true => obtain ⟨xs, e, r⟩ := h; exact ⟨xs, e, r.updp S⟩
theorem Envr.updp {σ : L2.St} {ρ : Rho} (S : Soft H al M D) (h : Envr K H al M σ ρ) : Envr K (upd H D o) al M σ ρ :=
  ⟨h.len, fun i d e => let ⟨v, e1, r⟩ := h.at_ i d e; ⟨v, e1, Rep.updp S _ _ r⟩⟩
theorem Sto.updp (S : Sto X H al M) (hD : al.pv D) {vs : List V} : Sto X (upd H D (.lst vs)) al M := by
  have hh : Soft H al M D := S.soft (.inr hD)
  refine ⟨S.len, fun n u a e ha => ?_, S.inj, fun a ha => ?_, S.pvd⟩
  · have old := S.at_ n u a e ha
    have hne : u.hot = true → a ≠ D := by
      intro hu
      rintro rfl
      exact S.pvd n a ⟨u, e, hu⟩ ha hD
    cases u with
    | dead => trivial
    | lst ds => obtain ⟨vs, e1, r⟩ := old; exact ⟨vs, by rw [upd_ne (hne rfl)]; exact e1, Reps.updp hh _ _ r⟩
    | ins c fs => obtain ⟨dx, vfs, e1, r, q⟩ := old; exact ⟨dx, vfs, by rw [upd_ne (hne rfl)]; exact e1, Fsr.updp hh _ _ r, q⟩
    | dic tk kvs => obtain ⟨w, e1, r⟩ := old; exact ⟨w, by rw [upd_ne (hne rfl)]; exact e1, r.updp hh⟩
    | fdic tk kvs => obtain ⟨o, w, e1, r⟩ := old; exact ⟨o, w, by rw [upd_ne (by rintro rfl; exact hh.frz _ _ e1)]; exact e1, r.updp hh⟩
  · by_cases q : a = D
    · subst q; exact ⟨vs, upd_same⟩
    · rw [upd_ne q]; exact S.pvl a ha

def Am.pr (al : Am) (D : Addr) : Am := ⟨al.ad, fun a => al.pv a ∨ a = D⟩
structure Stu (H1 : Hp) (al1 : Am) (M1 : Store) (D : Addr) (H : Hp) (al : Am) (M : Store) : Prop where
  pv : al.pv = fun a => al1.pv a ∨ a = D
  pub : Stp H1 al1 M1 H ⟨al.ad, al1.pv⟩ M
theorem Stu.step (u : Stu H1 al1 M1 D H al M) (hD : H1 D = none) (s : Stp H al M H' al' M') : Stu H1 al1 M1 D H' al' M' := by
  refine ⟨by rw [s.pv, u.pv], ?_⟩
  have p := u.pub
  refine ⟨?_, rfl, fun a ha => ?_, fun a o e h => ?_, fun a h => s.dom a (p.dom a h), fun n hn hl => p.alive n hn (s.alive n ?_ hl), fun n a hn e => ?_⟩
  · obtain ⟨m1, e1⟩ := p.pre
    obtain ⟨m2, e2⟩ := s.pre
    exact ⟨m1 ++ m2, by show al'.ad = _; rw [e2, show al.ad = _ from e1, List.append_assoc]⟩
  · exact (s.pvk a (by rw [u.pv]; exact .inl ha)).trans (p.pvk a ha)
  · refine s.keep a o (p.keep a o e h) ?_
    rintro (⟨n, hl, e2⟩ | hp)
    · exact p.nothot h (by rw [e]; simp) (.inl ⟨n, hl, e2⟩)
    · rw [u.pv] at hp
      rcases hp with hp | rfl
      · exact h (.inr hp)
      · rw [hD] at e; cases e
  · obtain ⟨m1, e1⟩ := p.pre
    rw [show al.ad = _ from e1, List.length_append]; omega
  · by_cases h1 : n < al.ad.length
    · refine p.new n a hn ?_
      obtain ⟨m2, e2⟩ := s.pre
      have e : al'.ad[n]? = some a := e
      rw [e2, List.getElem?_append_left h1] at e
      exact e
    · have h2 := s.new n a (Nat.le_of_not_lt h1) e
      cases q : H1 a with
      | none => rfl
      | some o => exact absurd h2 (p.dom a (by rw [q]; simp))
theorem Stu.updp (S1 : Sto X H1 al1 M1) (u : Stu H1 al1 M1 D H al M) (hD : H1 D = none) : Stu H1 al1 M1 D (upd H D o) al M := by
  have p := u.pub
  refine ⟨u.pv, p.pre, rfl, fun a ha => ?_, fun a q e h => ?_, fun a h => ?_, p.alive, p.new⟩
  · rw [upd_ne]; exact p.pvk a ha
    rintro rfl; obtain ⟨vs, e⟩ := S1.pvl a ha; rw [hD] at e; cases e
  · rw [upd_ne]; exact p.keep a q e h
    rintro rfl; rw [hD] at e; cases e
  · by_cases q : a = D
    · subst q; rw [upd_same]; simp
    · rw [upd_ne q]; exact p.dom a h
/-- what was known ahead of D's making -/
theorem Stu.start (S1 : Sto X H1 al1 M1) (hD : H1 D = none) : Stu H1 al1 M1 D (upd H1 D (.lst [])) (al1.pr D) M1 := ⟨rfl, Stp.cold S1 hD⟩
theorem pr_hot {a : Addr} (h : Hot (al.pr D) M a) : Hot al M a ∨ a = D := by
  rcases h with h | h | h
  · exact .inl (.inl h)
  · exact .inl (.inr h)
  · exact .inr h
mutual
theorem Rep.pr (hD : H D = none) : ∀ (d : G.D) (v : V), Rep K H al M d v → Rep K H (al.pr D) M d v
  | .non, _, h => by rw [Rep] at h ⊢; exact h
  | .bl _, _, h => by rw [Rep] at h ⊢; exact h
  | .int _, _, h => by rw [Rep] at h ⊢; exact h
  | .str _, _, h => by rw [Rep] at h ⊢; exact h
  | .tup ds, v, h => by
    rw [Rep] at h ⊢
    obtain ⟨a, vs, e, h1, h2⟩ := h
    exact ⟨a, vs, e, h1, Reps.pr hD ds vs h2⟩
  | .lst ds, v, h => by
    rw [Rep] at h ⊢
    obtain ⟨a, vs, e, h1, h2, h3⟩ := h
    exact ⟨a, vs, e, h1, fun q => (pr_hot q).elim h2 (by rintro rfl; rw [hD] at h1; cases h1), Reps.pr hD ds vs h3⟩
  | .scr ns, v, h => by rw [Rep] at h ⊢; exact h
  | .ptr n, v, h => by rw [Rep] at h ⊢; exact h
theorem Reps.pr (hD : H D = none) : ∀ (ds : List G.D) (vs : List V), Reps K H al M ds vs → Reps K H (al.pr D) M ds vs
  | [], _, h => by rw [Reps] at h ⊢; exact h
  | d :: ds, vs, h => by
    rw [Reps] at h ⊢
    obtain ⟨v, r, e, h1, h2⟩ := h
    exact ⟨v, r, e, Rep.pr hD d v h1, Reps.pr hD ds r h2⟩
end
theorem Fsr.pr {nm : Nat → Str} (hD : H D = none) : ∀ (fs : List (Nat × G.D)) (vs : List (Str × V)), Fsr nm K H al M fs vs → Fsr nm K H (al.pr D) M fs vs
  | [], _, h => h
  | p :: ds, vs, h => by
    obtain ⟨v, r, e, h1, h2⟩ := h
    exact ⟨v, r, e, Rep.pr hD _ v h1, Fsr.pr hD ds r h2⟩
theorem Dr.pr {κ : Type} {kf : κ → G.D} (hD : H D = none) : ∀ (ds : List (G.D × G.D)) (vs : List (κ × V)), Dr kf K H al M ds vs → Dr kf K H (al.pr D) M ds vs
  | [], _, h => h
  | p :: ds, vs, h => by
    obtain ⟨k, v, r, e, hk, h1, h2⟩ := h
    exact ⟨k, v, r, e, hk, Rep.pr hD _ v h1, Dr.pr hD ds r h2⟩
theorem Dcr.pr {tk : Bool} {kvs : List (G.D × G.D)} {u : HO} (hD : H D = none) (h : Dcr tk K H al M kvs u) : Dcr tk K H (al.pr D) M kvs u := by
  cases tk with
  | false => obtain ⟨xs, e, r⟩ := h; exact ⟨xs, e, r.pr hD⟩
  | true => obtain ⟨xs, e, r⟩ := h; exact ⟨xs, e, r.pr hD⟩
theorem Envr.pr {σ : L2.St} {ρ : Rho} (hD : H D = none) (h : Envr K H al M σ ρ) : Envr K H (al.pr D) M σ ρ :=
  ⟨h.len, fun i d e => let ⟨v, e1, r⟩ := h.at_ i d e; ⟨v, e1, Rep.pr hD _ _ r⟩⟩
theorem soft_new (hD : H D = none) : Soft H (al.pr D) M D := ⟨.inr (.inr rfl), fun vs => by rw [hD]; simp, fun ob u => by rw [hD]; simp⟩
/-- the new list, private -/
theorem Sto.start (S : Sto X H al M) (hD : H D = none) : Sto X (upd H D (.lst [])) (al.pr D) M := by
  have C := S.cold (o := .lst []) hD
  refine ⟨C.len, fun n u a e ha => ?_, C.inj, fun a ha => ?_, fun n a hl ha hp => ?_⟩
  · have old := S.at_ n u a e ha
    have hne : u ≠ .dead → a ≠ D := by
      intro hu
      rintro rfl
      exact old.some_ hu hD
    cases u with
    | dead => trivial
    | lst ds => obtain ⟨vs, e1, r⟩ := old; exact ⟨vs, by rw [upd_ne (hne (by simp))]; exact e1, Reps.updp (soft_new hD) _ _ (Reps.pr hD _ _ r)⟩
    | ins c fs => obtain ⟨dx, vfs, e1, r, q⟩ := old; exact ⟨dx, vfs, by rw [upd_ne (hne (by simp))]; exact e1, Fsr.updp (soft_new hD) _ _ (Fsr.pr hD _ _ r), q⟩
    | dic tk kvs => obtain ⟨w, e1, r⟩ := old; exact ⟨w, by rw [upd_ne (hne (by simp))]; exact e1, (r.pr hD).updp (soft_new hD)⟩
    | fdic tk kvs => obtain ⟨o, w, e1, r⟩ := old; exact ⟨o, w, by rw [upd_ne (hne (by simp))]; exact e1, (r.pr hD).updp (soft_new hD)⟩
  · rcases ha with ha | rfl
    · exact C.pvl a ha
    · exact ⟨[], upd_same⟩
  · rcases hp with hp | rfl
    · exact C.pvd n a hl ha hp
    · exact S.ne (.inl ⟨n, hl, ha⟩) hD
/-- .. let go as a plain list -/
theorem pub_hot {pv : Addr → Prop} (hpv : ∀ a, pv a → al.pv a) {a : Addr} (h : Hot ⟨al.ad, pv⟩ M a) : Hot al M a := h.elim .inl fun h => .inr (hpv a h)
theorem Sto.pub (S : Sto X H al M) {pv : Addr → Prop} (hpv : ∀ a, pv a → al.pv a) : Sto X H ⟨al.ad, pv⟩ M :=
  ⟨S.len, fun n u a e ha => (S.at_ n u a e ha).reh ⟨⟨[], by simp⟩, fun a => pub_hot hpv⟩, S.inj, fun a ha => S.pvl a (hpv a ha), fun n a hl ha hp => S.pvd n a hl ha (hpv a hp)⟩
/-- .. taken into the store -/
theorem open_reh {pv : Addr → Prop} (len : al.ad.length = M.length) (hpv : ∀ a, pv a → al.pv a) (hD : al.pv D) : Reh al M ⟨al.ad ++ [D], pv⟩ (M ++ [ob]) := by
  refine ⟨⟨[D], rfl⟩, fun a h => ?_⟩
  rcases h with ⟨n, hl, e⟩ | h
  · rcases add_get (al := al) (p := D) e with ⟨h1, e1⟩ | ⟨h1, rfl⟩
    · exact .inl ⟨n, (live_app (by omega)).mp hl, e1⟩
    · exact .inr hD
  · exact .inr (hpv a h)
theorem Sto.opn (S : Sto X H al M) {pv : Addr → Prop} (hpv : ∀ a, pv a → al.pv a) (hD : al.pv D) (hDn : ¬ pv D) (new : Obr X H ⟨al.ad ++ [D], pv⟩ (M ++ [ob]) ob D) : Sto X H ⟨al.ad ++ [D], pv⟩ (M ++ [ob]) := by
  have hS := S.len
  have rh : Reh al M ⟨al.ad ++ [D], pv⟩ (M ++ [ob]) := open_reh S.len hpv hD
  have nd : ∀ n, ndl M n → al.ad[n]? ≠ some D := fun n hn e => by
    obtain ⟨o, e1, ho⟩ := hn
    by_cases hh : o.hot = true
    · exact S.pvd n D ⟨o, e1, hh⟩ e hD
    · cases o with
      | fdic tk kvs =>
        obtain ⟨u, w, e2, _⟩ := S.at_ n _ D e1 e
        obtain ⟨vs, e3⟩ := S.pvl D hD
        rw [e2] at e3; cases e3
      | dead => exact ho rfl
      | _ => exact hh rfl
  refine ⟨by simp [S.len], fun k u b e hb => ?_, fun i j b hi hj ei ej => ?_, fun a ha => S.pvl a (hpv a ha), fun i b hi e => ?_⟩
  · rcases add_get (al := al) (p := D) hb with ⟨hk, hc⟩ | ⟨hk, hc⟩
    · rw [List.getElem?_append_left (by omega)] at e
      exact (S.at_ k u b e hc).reh rh
    · subst hc hk
      rw [hS] at e
      simp at e
      rw [← e]; exact new
  · rcases add_get (al := al) (p := D) ei with ⟨h1, e1⟩ | ⟨h1, e1⟩ <;> rcases add_get (al := al) (p := D) ej with ⟨h2, e2⟩ | ⟨h2, e2⟩
    · exact S.inj i j b ((ndl_app (by omega)).mp hi) ((ndl_app (by omega)).mp hj) e1 e2
    · subst e2; exact absurd e1 (nd i ((ndl_app (by omega)).mp hi))
    · subst e1; exact absurd e2 (nd j ((ndl_app (by omega)).mp hj))
    · rw [h1, h2]
  · rcases add_get (al := al) (p := D) e with ⟨h1, e1⟩ | ⟨h1, e1⟩
    · exact fun hp => S.pvd i b ((live_app (by omega)).mp hi) e1 (hpv b hp)
    · subst e1; exact hDn
end

theorem wipe_wipe {σ : L2.St} {vs : List Nat} : wipe (wipe σ vs) vs = wipe σ vs := by
  apply List.ext_getElem?
  intro j
  rw [wipe_get, wipe_get, wipe_length]
  by_cases h : j ∈ vs ∧ j < σ.length
  · rw [if_pos h, if_pos h]
  · rw [if_neg h, if_neg h]
theorem wipe_env {K : PySem.W.Frag} {H : Hp} {al : Am} {M : Store} {σ : L2.St} {ρ : Rho} (E : Envr K H al M σ ρ) : ∀ (vs : List Nat), Envr K H al M (wipe σ vs) (wipeR ρ vs)
  | [] => E
  | v :: vs => by
    have ih := wipe_env E vs
    refine ⟨by show ((wipeR ρ vs).set v none).length = ((wipe σ vs).set v none).length; simp [ih.len], fun i d e => ?_⟩
    have e : ((wipeR ρ vs).set v none)[i]? = some (some d) := e
    by_cases hi : v = i
    · subst hi
      by_cases hl : v < (wipeR ρ vs).length
      · rw [List.getElem?_set_self hl] at e; cases e
      · rw [List.getElem?_eq_none (by simpa using hl)] at e; cases e
    · rw [List.getElem?_set_ne hi] at e
      show ∃ w, ((wipe σ vs).set v none)[i]? = _ ∧ _
      rw [List.getElem?_set_ne hi]
      exact ih.at_ i d e

section
variable {Z : Gz} {n : Nat} {W : WX}
/-- between two turns -/
structure LcInv (Z : Gz) (H1 : Hp) (al1 : Am) (M1 : Store) (D : Addr) (σ : L2.St) (ρ : Rho) (k : Wk) (J : It) (H : Hp) (al : Am) (M : Store) (acc : List G.D) : Prop where
  S : Sto Z.toGx H al M
  E : Envr Z.K H al M σ ρ
  u : Stu H1 al1 M1 D H al M
  it : rI Z H al M k J
  acc : ∃ vacc, H D = some (.lst vacc) ∧ Reps Z.K H al M acc vacc
theorem rI.updp {H : Hp} {al : Am} {M : Store} {D : Addr} {o : HO} {k : Wk} {J : It} (S : Soft H al M D) (h : rI Z H al M k J) : rI Z (upd H D o) al M k J := by
  cases k with
  | items xs =>
    rcases h with ⟨a, d, e, r, q⟩ | ⟨a, e, r⟩ | h | ⟨d, u, kvs, e, h, q⟩ | ⟨d, u, kvs, e, h, q⟩
    · exact .inl ⟨a, d, e, Rep.updp S _ _ r, q⟩
    · exact .inr (.inl ⟨a, e, Rep.updp S _ _ r⟩)
    · exact .inr (.inr (.inl h))
    · exact .inr (.inr (.inr (.inl ⟨d, u, kvs, e, by rw [upd_ne (by rintro rfl; exact S.frz _ _ h)]; exact h, q⟩)))
    · exact .inr (.inr (.inr (.inr ⟨d, u, kvs, e, by rw [upd_ne (by rintro rfl; exact S.frz _ _ h)]; exact h, q⟩)))
  | hot m => exact h
theorem rI.pr {H : Hp} {al : Am} {M : Store} {D : Addr} {k : Wk} {J : It} (hD : H D = none) (h : rI Z H al M k J) : rI Z H (al.pr D) M k J := by
  cases k with
  | items xs =>
    rcases h with ⟨a, d, e, r, q⟩ | ⟨a, e, r⟩ | h
    · exact .inl ⟨a, d, e, Rep.pr hD _ _ r, q⟩
    · exact .inr (.inl ⟨a, e, Rep.pr hD _ _ r⟩)
    · exact .inr (.inr h)
  | hot m => exact h
abbrev WF : WX := fun _ _ _ _ => False
/-- the machine's turn -/
noncomputable def lcF (Z : Gz) (n : Nat) (gp : Gp) (t : Tps) (e : Xp) (ρ : Rho) : G.D → Store → Res (Option G.D) := fun x M => match bindG gp x (wipeR ρ (gslots gp)) with
  | some ρ' => ((rnTs Z n t ρ' M).noerr).bind fun b M2 => match b with
    | true => ((rnE Z n e ρ' M2).noerr).bind fun y M3 => .ok (some y) M3
    | false => .ok none M2
  | none => .stuck
theorem lc_turn {H1 : Hp} {al1 : Am} {M1 : Store} {D : Addr} {σ : L2.St} {ρ : Rho} {k : Wk} {J : It} {H : Hp} {al : Am} {M : Store} {acc : List G.D} {gp : Gp} {t : Tps} {e : Xp} {d : G.D} {x : V} {α β : Type} {R : Rl α β} {Q : β → Hp → Prop} {F : List G.D → Store → Res α} {Nx : Hp → Prop}
    (S1 : Sto Z.toGx H1 al1 M1) (hD : H1 D = none) (I : LcInv Z H1 al1 M1 D σ ρ k J H al M acc) (rx : Rep Z.K H al M d x)
    (p : Po Z.toGy R W σ H1 al1 M1 Q ((lcF Z n gp t e ρ d M).bind fun o M1 => match o with
      | some y => if acc.length < big then F (acc ++ [y]) M1 else .stuck
      | none => F acc M1))
    (hN : ∀ H' al' M' acc', LcInv Z H1 al1 M1 D σ ρ k J H' al' M' acc' → Po Z.toGy R W σ H1 al1 M1 Q (F acc' M') → Nx H') :
    tGp Z gp x (wipe σ (gslots gp)) H fun σ2 H2 => wipe σ2 (gslots gp) = wipe σ (gslots gp) ∧ tT Z.toGy WF (rnTs Z n t) σ2 H2 fun b H3 =>
      if b = true then tE Z.toGy WF (rnE Z n e) σ2 H3 fun y H4 => ∃ acc, H4 D = some (.lst acc) ∧ acc.length < sizeLine ∧ Nx (upd H4 D (.lst (acc ++ [y]))) else Nx H3 := by
  unfold lcF at p
  split at p
  · rename_i ρ' eb
    refine ⟨al, wipeR ρ (gslots gp), M, d, ρ', I.S, wipe_env I.E _, rx, eb, fun σ2 E2 hw => ⟨hw.trans wipe_wipe, al, ρ', M, I.S, E2, ?_⟩⟩
    cases q : rnTs Z n t ρ' M with
    | stuck => rw [q] at p; exact p.elim
    | err c fs M' => rw [q] at p; exact p.elim
    | ok b M2 =>
      rw [q] at p
      intro al2 H2 v s2 S2 ev
      cases ev
      have S' := I.S
      have hDpv : al.pv D := by rw [I.u.pv]; exact .inr rfl
      obtain ⟨vacc, hv, hr⟩ := I.acc
      cases b with
      | false =>
        rw [if_neg (by simp)]
        exact hN _ al2 M2 acc ⟨S2, I.E.mono S' s2, I.u.step hD s2, I.it.mono S' s2, vacc, (s2.pvk D hDpv).trans hv, Reps.mono S' s2 _ _ hr⟩ p
      | true =>
        rw [if_pos rfl]
        refine ⟨al2, ρ', M2, S2, E2.mono S' s2, ?_⟩
        simp only [noerr_ok, bind_ok] at p
        cases q3 : rnE Z n e ρ' M2 with
        | stuck => rw [q3] at p; exact p.elim
        | err c fs M' => rw [q3] at p; exact p.elim
        | ok y M3 =>
          rw [q3] at p
          simp only [noerr_ok, bind_ok] at p
          split at p
          · rename_i hlt
            intro al3 H3 w s3 S3 rw3
            have s := s2.trans s3
            have hd3 : H3 D = some (.lst vacc) := (s.pvk D hDpv).trans hv
            have hr3 := Reps.mono S' s _ _ hr
            have hDpv3 : al3.pv D := by rw [s.pv]; exact hDpv
            have so := S3.soft (D := D) (.inr hDpv3)
            refine ⟨vacc, hd3, by rw [hr.length]; exact hlt, hN _ al3 M3 (acc ++ [y]) ⟨S3.updp hDpv3, (I.E.mono S' s).updp so, (I.u.step hD s).updp S1 hD, (I.it.mono S' s).updp so, _, upd_same, ?_⟩ p⟩
            exact Reps.updp so _ _ (hr3.append (.cons rw3 .nil))
          · exact p.elim
  · exact p.elim
theorem lc_end {H1 : Hp} {al1 : Am} {M1 : Store} {D : Addr} {σ : L2.St} {ρ : Rho} {k : Wk} {J : It} {H : Hp} {al : Am} {M : Store} {acc : List G.D} {hot : Bool} {Q : VK}
    (S1 : Sto Z.toGx H1 al1 M1) (hD : H1 D = none) (I : LcInv Z H1 al1 M1 D σ ρ k J H al M acc) (p : Po Z.toGy (rE Z.toGy) W σ H1 al1 M1 Q (newL hot acc M)) : Q (.ref D) H := by
  obtain ⟨vacc, hv, hr⟩ := I.acc
  have hpv : ∀ a, al1.pv a → al.pv a := fun a h => by rw [I.u.pv]; exact .inl h
  have hDpv : al.pv D := by rw [I.u.pv]; exact .inr rfl
  have hDn : ¬ al1.pv D := fun h => by obtain ⟨vs, e⟩ := S1.pvl D h; rw [hD] at e; cases e
  have pub := I.u.pub
  cases hot with
  | false =>
    refine p ⟨al.ad, al1.pv⟩ H (.ref D) pub (I.S.pub hpv) ?_
    show Rep _ _ _ _ _ _
    rw [Rep]
    refine ⟨D, vacc, rfl, hv, ?_, Reps.reh ⟨⟨[], by simp⟩, fun a => pub_hot hpv⟩ _ _ hr⟩
    rintro (⟨m, hl, e⟩ | h)
    · exact I.S.pvd m D hl e hDpv
    · exact hDn h
  | true =>
    have rh : Reh al M ⟨al.ad ++ [D], al1.pv⟩ (M ++ [.lst acc]) := open_reh I.S.len hpv hDpv
    refine p ⟨al.ad ++ [D], al1.pv⟩ H (.ref D) ?_ (I.S.opn hpv hDpv hDn ⟨vacc, hv, Reps.reh rh _ _ hr⟩) ?_
    · refine ⟨?_, rfl, pub.pvk, pub.keep, pub.dom, fun m hm hl => pub.alive m hm ((live_app ?_).mp hl), fun m a hm e => ?_⟩
      · obtain ⟨more, e⟩ := pub.pre
        exact ⟨more ++ [D], by show al.ad ++ [D] = _; rw [show al.ad = _ from e, List.append_assoc]⟩
      · rw [← I.S.len]
        obtain ⟨more, e⟩ := pub.pre
        rw [show al.ad = _ from e, List.length_append]; omega
      · rcases add_get (al := al) (p := D) e with ⟨_, e1⟩ | ⟨_, rfl⟩
        · exact pub.new m a hm e1
        · exact hD
    · show Rep _ _ _ _ _ _
      rw [Rep]
      refine ⟨D, rfl, ?_⟩
      show (al.ad ++ [D])[M.length]? = _
      rw [← I.S.len]; simp
theorem lc_sem {c : Ck} {hot : Bool} {gp : Gp} {it : Ip} {t : Tps} {e : Xp} {σ : L2.St} {H : Hp} {Q : VK} (h : tE Z.toGy W (rnE Z n (.lc hot gp it t e)) σ H Q) :
    tLc (tI Z W (rnI Z n it)) (tGp Z gp) (tT Z.toGy WF (rnTs Z n t)) (tE Z.toGy WF (rnE Z n e)) ((ownOf c gp).map (·.2)) σ H Q := by
  have hvs : (ownOf c gp).map (·.2) = gslots gp := by unfold ownOf; rw [List.map_map]; exact (List.map_congr_left fun _ _ => rfl).trans (List.map_id _)
  rw [hvs]
  unfold rnE at h; simp only [runE] at h
  obtain ⟨al, ρ, M, S, E, p⟩ := h
  refine ⟨al, ρ, M, S, E, (Po.bind (R := rI Z) p).mono ?_⟩
  rintro J H1 ⟨al1, M1, k, s1, S1, rk, p1⟩ D hD
  have E1 := E.mono S s1
  have I0 : LcInv Z H1 al1 M1 D σ ρ k J (upd H1 D (.lst [])) (al1.pr D) M1 [] := ⟨S1.start hD, (E1.pr hD).updp (soft_new hD), Stu.start S1 hD, (rk.pr hD).updp (soft_new hD), [], upd_same, .nil⟩
  cases k with
  | items xs =>
    refine ⟨fun i m H => ∃ al M acc, LcInv Z H1 al1 M1 D σ ρ (.items xs) J H al M acc ∧ m = xs.length - i ∧ Po Z.toGy (rE Z.toGy) W σ H1 al1 M1 Q ((lcA (lcF Z n gp t e ρ) (xs.drop i) acc M).bind fun ys M2 => newL hot ys M2),
      ⟨xs.length, al1.pr D, M1, [], I0, rfl, by rw [List.drop_zero]; exact p1⟩, ?_⟩
    rintro i m H ⟨al, M, acc, I, rfl, p⟩
    by_cases hlt : i < xs.length
    · rw [List.drop_eq_getElem_cons hlt, lcA] at p
      obtain ⟨h1, h2⟩ := rI_go I.S I.it (i := i) (d := xs[i]) (by simp [hlt])
      refine .inr ⟨h1, fun H' => ∃ al M acc, LcInv Z H1 al1 M1 D σ ρ (.items xs) J H' al M acc ∧ Po Z.toGy (rE Z.toGy) W σ H1 al1 M1 Q ((lcA (lcF Z n gp t e ρ) (xs.drop (i + 1)) acc M).bind fun ys M2 => newL hot ys M2), ?_, ?_⟩
      · rintro H' ⟨al', M', acc', I', p'⟩
        exact ⟨xs.length - (i + 1), by omega, al', M', acc', I', rfl, p'⟩
      · intro x H' y
        obtain ⟨rfl, rx⟩ := h2 x H' y
        refine lc_turn (F := fun acc M => (lcA (lcF Z n gp t e ρ) (xs.drop (i + 1)) acc M).bind fun ys M2 => newL hot ys M2) S1 hD I rx ?_ fun H' al' M' acc' I' p' => ⟨al', M', acc', I', p'⟩
        revert p
        cases lcF Z n gp t e ρ xs[i] M with
        | ok o M' => 
          cases o with
          | none => exact id
          | some y =>
            simp only [bind_ok]
            by_cases hz : acc.length < big
            · simp only [if_pos hz]; exact id
            · simp only [if_neg hz]; exact id
        | err c fs M' => exact id
        | stuck => exact id
    · have hd : xs.drop i = [] := List.drop_eq_nil_of_le (Nat.le_of_not_lt hlt)
      rw [hd, lcA] at p
      exact .inl ⟨rI_stop I.S I.it (Nat.le_of_not_lt hlt), lc_end S1 hD I p⟩
  | hot a =>
    refine ⟨fun i m H => ∃ al M acc, LcInv Z H1 al1 M1 D σ ρ (.hot a) J H al M acc ∧ Po Z.toGy (rE Z.toGy) W σ H1 al1 M1 Q ((lcH a (lcF Z n gp t e ρ) m i acc M).bind fun ys M2 => newL hot ys M2),
      ⟨Z.wf, al1.pr D, M1, [], I0, p1⟩, ?_⟩
    rintro i m H ⟨al, M, acc, I, p⟩
    cases m with
    | zero => exact p.elim
    | succ m =>
      rw [lcH] at p
      split at p
      · rename_i xs e1
        obtain ⟨h0, h00⟩ := rI_hot I.S I.it e1
        split at p
        · rename_i e2
          exact .inl ⟨h0 i (List.getElem?_eq_none_iff.mp e2), lc_end S1 hD I p⟩
        · rename_i d e2
          obtain ⟨h1, h2⟩ := h00 i d e2
          refine .inr ⟨h1, fun H' => ∃ al M acc, LcInv Z H1 al1 M1 D σ ρ (.hot a) J H' al M acc ∧ Po Z.toGy (rE Z.toGy) W σ H1 al1 M1 Q ((lcH a (lcF Z n gp t e ρ) m (i + 1) acc M).bind fun ys M2 => newL hot ys M2), ?_, ?_⟩
          · rintro H' ⟨al', M', acc', I', p'⟩
            exact ⟨m, Nat.lt_succ_self m, al', M', acc', I', p'⟩
          · intro x H' y
            obtain ⟨rfl, rx⟩ := h2 x H' y
            refine lc_turn (F := fun acc M => (lcH a (lcF Z n gp t e ρ) m (i + 1) acc M).bind fun ys M2 => newL hot ys M2) S1 hD I rx ?_ fun H' al' M' acc' I' p' => ⟨al', M', acc', I', p'⟩
            revert p
            cases lcF Z n gp t e ρ d M with
            | ok o M' => 
              cases o with
              | none => exact id
              | some y =>
                simp only [bind_ok]
                by_cases hz : acc.length < big
                · simp only [if_pos hz]; exact id
                · simp only [if_neg hz]; exact id
            | err c fs M' => exact id
            | stuck => exact id
      · exact p.elim
theorem z_lc {cx : Cx} {c : Ck} {hot : Bool} {gp : Gp} {it : Ip} {t : Tps} {e : Xp} {elt tg iter : Expr} {ifs : List Expr} {scope : Scope} {pos : Pos} (g : Good Z c cx n) (hi : PI cx tg iter (tI Z W (rnI Z n it))) (hb : blkC cx.N cx.env.scope scope (ownOf c gp) = true)
    (hg : ∀ (s : Shared) (H : Hp) (C : Addr) (cl : List (Str × Addr)) (fp : List Addr), PG (cx.blk s H scope (compEnvC scope cl C cx.env) fp) tg (tGp Z gp))
    (ht : ∀ (s : Shared) (H : Hp) (C : Addr) (cl : List (Str × Addr)) (fp : List Addr), PTs (cx.blk s H scope (compEnvC scope cl C cx.env) fp) ifs (tT Z.toGy WF (rnTs Z n t)))
    (he : ∀ (s : Shared) (H : Hp) (C : Addr) (cl : List (Str × Addr)) (fp : List Addr), PE (cx.blk s H scope (compEnvC scope cl C cx.env) fp) elt (tE Z.toGy WF (rnE Z n e)))
    (hs : ∀ x, foldedSetIterable iter cx.env x = pure x) :
    PEz Z n cx W (.lc hot gp it t e) (.ListComp elt [⟨tg, iter, ifs, 0⟩] scope pos) :=
  (pe_lc (pos := pos) g.calm (by rw [g.N]; exact g.nd) hi (blkOk_by hb) hg ht he hs).imp fun σ H Q h => lc_sem h
end
end G

/-! GMut -/
set_option maxRecDepth 100000
set_option maxHeartbeats 4000000
namespace G
open PySem PySem.Spec PyProof.Rows L2

theorem takes_F {cx : Cx} (h : ∀ W : WX, (∀ c d σ H, ¬ W c d σ H) → Takes cx W) : Takes cx WF := h _ fun _ _ _ _ q => q
theorem takesF {cx : Cx} : Takes cx WF := fun u s' ⟨a, B, sI, pins, σ, H, cls, d, e, I, nb, up, sky, na, os, ag, w⟩ => False.elim w
section
variable {Z : Gz} {n : Nat}
theorem Lnk.of {cx cx' : Cx} (l : Lnk Z cx n) (h1 : cx'.K = cx.K) (h2 : cx'.prog = cx.prog) (h3 : cx'.w = cx.w) (h4 : cx'.mg = cx.mg) (h5 : cx'.base = cx.base) : Lnk Z cx' n := by
  cases cx
  cases cx'
  dsimp only at h1 h2 h3 h4 h5
  subst h1 h2 h3 h4 h5
  exact ⟨l.K, fun f k e => ⟨(l.fn f k e).ex, (l.fn f k e).kp⟩, l.fnm, l.blt, l.clm, l.cls, l.mks, l.meth, fun k e h => ⟨(l.ers k e h).ex, (l.ers k e h).fl, (l.ers k e h).ne, (l.ers k e h).few⟩, l.erm, l.exm, l.xfc, l.noat, l.nms⟩
theorem Good.blk {c : Ck} {cx : Cx} (g : Good Z c cx n) (s : Shared) (H : Hp) (scope : Scope) (C : Addr) (cl : List (Str × Addr)) (fp : List Addr) : Good Z (c.blk scope) (cx.blk s H scope (compEnvC scope cl C cx.env) fp) n :=
  ⟨g.lnk.of rfl rfl rfl rfl rfl, g.P, by
    show relS scope cx.env.scope = relS scope c.sc
    rw [g.sc], g.N, g.nd, rfl, g.calm, g.room⟩
theorem z_var {cx : Cx} {c : Ck} {W : WX} {i : Nat} {x : Str} {pos : Pos} (g : Good Z c cx n) (h : c.var i x = true) : PEz Z n cx W (.v i) (.Name x pos) := by
  unfold Ck.var at h
  simp only [Bool.and_eq_true, decide_eq_true_eq, Bool.not_eq_true'] at h
  obtain ⟨⟨⟨h1, h2⟩, h3⟩, h4⟩ := h
  refine (pe_var (by rw [g.N]; exact h1) (g.vis h2) h3 h4).imp fun σ H Q hh => ?_
  unfold rnE at hh; simp only [runE] at hh
  obtain ⟨al, ρ, M, S, E, p⟩ := hh
  dsimp only at p
  split at p
  · rename_i d e
    obtain ⟨v, e1, r⟩ := E.at_ i d e
    exact ⟨v, e1, p.ok S r⟩
  · exact p.elim
theorem z_pts0 {cx : Cx} {W : WX} : PTs cx [] (tT Z.toGy W (rnTs Z n .nil)) := ⟨fun pins s σ H Q I h => pts_nil.run pins s σ H Q I (by
  unfold rnTs at h; simp only [runTs] at h
  obtain ⟨al, ρ, M, S, E, p⟩ := h
  exact p.ok S rfl)⟩
theorem z_pts1 {cx : Cx} {W : WX} {t : Tp} {e : Expr} (h : PTz Z n cx W t e) : PTs cx [e] (tT Z.toGy W (rnTs Z n (.cons t .nil))) := ⟨fun pins s σ H Q I hh => (pts_one h).run pins s σ H Q I (by
  unfold rnTs at hh; simp only [runTs] at hh
  exact hh)⟩
theorem z_tand {cx : Cx} {W : WX} {ts : Tps} {e : Expr} (h : PW cx e (tT Z.toGy W (rnTs Z n ts))) : PTz Z n cx W (.tand ts) e := h.pt.imp fun σ H Q hh => by
  unfold rnT at hh; simp only [runT] at hh; exact hh
theorem z_tor {cx : Cx} {W : WX} {ts : Tps} {e : Expr} (h : PW cx e (tT Z.toGy W (rnTo Z n ts))) : PTz Z n cx W (.tor ts) e := h.pt.imp fun σ H Q hh => by
  unfold rnT at hh; simp only [runT] at hh; exact hh
theorem chkA_form {c : Ck} {as : Xps} {es : List Expr} (h : chkA c as es = true) : (as = .nil ∧ es = []) ∨ ∃ e es', es = e :: es' := by
  cases as with
  | nil => cases es with
    | nil => exact .inl ⟨rfl, rfl⟩
    | cons _ _ => simp [chkA] at h
  | cons a r => cases es with
    | nil => simp [chkA] at h
    | cons e es => exact .inr ⟨e, es, rfl⟩

theorem sndI_fold {env : Env} (x : Ip) (c : Ck) (e : Expr) (h : chkI c x e = true) (u : Value) : foldedSetIterable e env u = pure u := by
  refine folded_of ?_ u
  cases x with
  | val a => rw [chkI] at h; exact plainX_set (chk_plain _ _ h)
  | rng1 a => 
    unfold chkI at h; split at h
    · rfl
    · cases h
  | rng2 a b => 
    unfold chkI at h; split at h
    · rfl
    · cases h
mutual
theorem sndE : ∀ (x : Xp) (c : Ck) (cx : Cx) (W : WX) (e : Expr), Good Z c cx n → Takes cx W → chkE c x e = true → PEz Z n cx W x e
  | .non, c, cx, W, e, g, tk, h => by
    unfold chkE at h; split at h
    · exact z_c pe_non (fun _ _ _ => non_rep) fun _ _ => rfl
    · cases h
  | .bl b, c, cx, W, e, g, tk, h => by
    unfold chkE at h; split at h
    · rw [beq_iff_eq] at h; subst h
      exact z_c pe_bl (fun _ _ _ => bl_rep) fun _ _ => rfl
    · cases h
  | .int i, c, cx, W, e, g, tk, h => by
    unfold chkE at h; split at h
    · rw [decide_eq_true_eq] at h; subst h
      exact z_c pe_int (fun _ _ _ => int_rep) fun _ _ => rfl
    · cases h
  | .str x, c, cx, W, e, g, tk, h => by
    unfold chkE at h; split at h
    · rw [decide_eq_true_eq] at h; subst h
      exact z_c pe_str (fun _ _ _ => str_rep) fun _ _ => rfl
    · cases h
  | .v i, c, cx, W, e, g, tk, h => by
    unfold chkE at h; split at h
    · exact z_var g h
    · cases h
  | .bin o a b, c, cx, W, e, g, tk, h => by
    unfold chkE at h; split at h
    · simp only [Bool.and_eq_true, decide_eq_true_eq] at h
      obtain ⟨⟨rfl, h1⟩, h2⟩ := h
      exact z_bin g (sndE a c cx W _ g tk h1) (sndE b c cx W _ g tk h2)
    · cases h
  | .neg a, c, cx, W, e, g, tk, h => by
    unfold chkE at h; split at h
    · exact z_neg (sndE a c cx W _ g tk h)
    · cases h
  | .notV a, c, cx, W, e, g, tk, h => by
    unfold chkE at h; split at h
    · exact z_notV (sndE a c cx W _ g tk h)
    · cases h
  | .cmp o a b, c, cx, W, e, g, tk, h => by
    unfold chkE at h; split at h
    · simp only [Bool.and_eq_true, decide_eq_true_eq] at h
      obtain ⟨⟨rfl, h1⟩, h2⟩ := h
      exact z_cmp g (plainX_set (chk_plain _ _ h2)) (sndE a c cx W _ g tk h1) (sndE b c cx W _ g tk h2)
    · cases h
  | .chn o p a b d, c, cx, W, e, g, tk, h => by
    unfold chkE at h; split at h
    · simp only [Bool.and_eq_true, decide_eq_true_eq] at h
      obtain ⟨⟨⟨⟨rfl, rfl⟩, h1⟩, h2⟩, h3⟩ := h
      exact z_chn g (plainX_set (chk_plain _ _ h3)) (sndE a c cx W _ g tk h1) (sndE b c cx W _ g tk h2) (sndE d c cx W _ g tk h3)
    · cases h
  | .isN a, c, cx, W, e, g, tk, h => by
    unfold chkE at h; split at h
    · exact z_isN (sndE a c cx W _ g tk h)
    · cases h
  | .notN a, c, cx, W, e, g, tk, h => by
    unfold chkE at h; split at h
    · exact z_notN (sndE a c cx W _ g tk h)
    · cases h
  | .andV as, c, cx, W, e, g, tk, h => by
    unfold chkE at h; split at h
    · exact sndAnd as c cx W _ _ g tk h
    · cases h
  | .orV as, c, cx, W, e, g, tk, h => by
    unfold chkE at h; split at h
    · exact sndOr as c cx W _ _ g tk h
    · cases h
  | .ife t a b, c, cx, W, e, g, tk, h => by
    unfold chkE at h; split at h
    · simp only [Bool.and_eq_true] at h
      obtain ⟨⟨h1, h2⟩, h3⟩ := h
      exact z_ife (sndT t c cx W _ g tk h1) (sndE a c cx W _ g tk h2) (sndE b c cx W _ g tk h3)
    · cases h
  | .call f as, c, cx, W, e, g, tk, h => by
    unfold chkE at h; split at h
    · simp only [Bool.and_eq_true] at h
      obtain ⟨⟨h1, h2⟩, h3⟩ := h
      split at h1
      · rename_i k e1
        rw [Bool.and_eq_true, decide_eq_true_eq] at h1
        exact z_call g tk (by rw [← g.P]; exact e1) h1.1 h1.2 h2 (chkA_star _ _ h3) (chkA_form h3) (sndA as c cx W _ g tk h3)
      · cases h1
    · cases h
  | .mk f as, c, cx, W, e, g, tk, h => by
    unfold chkE at h; split at h
    · simp only [Bool.and_eq_true] at h
      obtain ⟨⟨h1, h2⟩, h3⟩ := h
      split at h1
      · rename_i k e1
        rw [decide_eq_true_eq] at h1
        exact z_mk g tk (by rw [← g.P]; exact e1) h1 h2 (chkA_star _ _ h3) (chkA_form h3) (sndA as c cx W _ g tk h3)
      · cases h1
    · cases h
  | .meth o m as, c, cx, W, e, g, tk, h => by
    unfold chkE at h; split at h
    · simp only [Bool.and_eq_true, decide_eq_true_eq] at h
      obtain ⟨⟨⟨⟨⟨h1, h2⟩, h3⟩, h4⟩, h5⟩, h6⟩ := h
      exact z_meth g tk h1 h2 h3 h4 (chkA_star _ _ h6) (chkA_form h6) (sndE o c cx W _ g tk h5) (sndA as c cx W _ g tk h6)
    · cases h
  | .bi f as, c, cx, W, e, g, tk, h => by
    unfold chkE at h; split at h
    · simp only [Bool.and_eq_true, decide_eq_true_eq] at h
      obtain ⟨⟨⟨h1, h2⟩, h3⟩, h4⟩ := h
      rcases chkA_form h4 with ⟨rfl, rfl⟩ | ⟨e, es', rfl⟩
      · cases h3
      · exact z_bi g h1 h2 (chkA_star _ _ h4) (sndA as c cx W _ g tk h4)
    · cases h
  | .bm f o as, c, cx, W, e, g, tk, h => by
    unfold chkE at h; split at h
    · simp only [Bool.and_eq_true, decide_eq_true_eq, beq_iff_eq] at h
      obtain ⟨⟨⟨⟨⟨⟨h1, h2⟩, h3⟩, h4⟩, h7⟩, h5⟩, h6⟩ := h
      refine z_bm g h1 h2 h3 (by simpa using h4) (chkA_star _ _ h6) ?_ (sndE o c cx W _ g tk h5) (sndA as c cx W _ g tk h6)
      rcases chkA_form h6 with ⟨rfl, rfl⟩ | ⟨e, es', rfl⟩
      · exact .inl ⟨rfl, rfl, by simpa using h7⟩
      · exact .inr ⟨e, es', rfl, by simpa using h7⟩
    · cases h
  | .isi a t, c, cx, W, e, g, tk, h => by
    unfold chkE at h; split at h
    · simp only [Bool.and_eq_true, decide_eq_true_eq] at h
      obtain ⟨⟨⟨⟨h1, h2⟩, h3⟩, h4⟩, h5⟩ := h
      exact z_isi g h1 h2 h3 h4 (plainX_star (chk_plain _ _ h5)) (sndE a c cx W _ g tk h5)
    · cases h
  | .fld o f, c, cx, W, e, g, tk, h => by
    unfold chkE at h; split at h
    · simp only [Bool.and_eq_true] at h
      obtain ⟨⟨h1, h2⟩, h3⟩ := h
      exact z_fld g h1 h2 (sndE o c cx W _ g tk h3)
    · cases h
  | .ix o i, c, cx, W, e, g, tk, h => by
    unfold chkE at h; split at h
    · simp only [Bool.and_eq_true] at h
      exact z_ix g (plainX_slice (chk_plain _ _ h.2)) (sndE o c cx W _ g tk h.1) (sndE i c cx W _ g tk h.2)
    · cases h
  | .sl o lo hi, c, cx, W, e, g, tk, h => by
    unfold chkE at h; split at h
    · simp only [Bool.and_eq_true] at h
      exact z_sl g (sndE o c cx W _ g tk h.1.1) (sndO lo c cx W _ g tk h.1.2) (sndO hi c cx W _ g tk h.2)
    · cases h
  | .tup as, c, cx, W, e, g, tk, h => by
    unfold chkE at h; split at h
    · exact z_tup (sndA as c cx W _ g tk h)
    · cases h
  | .lst hot as, c, cx, W, e, g, tk, h => by
    unfold chkE at h; split at h
    · exact z_lst (sndA as c cx W _ g tk h)
    · cases h
  | .lc hot gp it t a, c, cx, W, e, g, tk, h => by
    unfold chkE at h; split at h
    · simp only [Bool.and_eq_true] at h
      obtain ⟨⟨⟨⟨h1, h2⟩, h3⟩, h4⟩, h5⟩ := h
      exact z_lc g (sndI it c cx W _ _ g tk h1) (by rw [g.N, g.sc]; exact h2) (fun s H C cl fp => z_tgt (g.blk s H _ C cl fp) h3)
        (fun s H C cl fp => sndIfs t _ _ WF _ (g.blk s H _ C cl fp) takesF h4) (fun s H C cl fp => sndE a _ _ WF _ (g.blk s H _ C cl fp) takesF h5) (sndI_fold it c _ h1)
    · cases h
  | .frz a, c, cx, W, e, g, tk, h => by
    rw [chkE] at h
    exact z_frz (sndE a c cx W _ g tk h)
  | .lrg hot a, c, cx, W, e, g, tk, h => by
    unfold chkE at h; split at h
    · simp only [Bool.and_eq_true, decide_eq_true_eq] at h
      obtain ⟨⟨⟨⟨h1, h2⟩, h3⟩, h4⟩, h5⟩ := h
      exact z_lrg g h1 h2 h3 h4 (plainX_star (chk_plain _ _ h5)) (sndE a c cx W _ g tk h5)
    · cases h
  | .lrg2 hot a b, c, cx, W, e, g, tk, h => by
    unfold chkE at h; split at h
    · simp only [Bool.and_eq_true, decide_eq_true_eq] at h
      obtain ⟨⟨⟨⟨⟨h1, h2⟩, h3⟩, h4⟩, h5⟩, h6⟩ := h
      exact z_lrg2 g h1 h2 h3 h4 (plainX_star (chk_plain _ _ h5)) (plainX_star (chk_plain _ _ h6)) (sndE a c cx W _ g tk h5) (sndE b c cx W _ g tk h6)
    · cases h
  | .trg a, c, cx, W, e, g, tk, h => by
    unfold chkE at h; split at h
    · simp only [Bool.and_eq_true, decide_eq_true_eq] at h
      obtain ⟨⟨⟨⟨h1, h2⟩, h3⟩, h4⟩, h5⟩ := h
      exact z_trg g h1 h2 h3 h4 (plainX_star (chk_plain _ _ h5)) (sndE a c cx W _ g tk h5)
    · cases h
  | .trg2 a b, c, cx, W, e, g, tk, h => by
    unfold chkE at h; split at h
    · simp only [Bool.and_eq_true, decide_eq_true_eq] at h
      obtain ⟨⟨⟨⟨⟨h1, h2⟩, h3⟩, h4⟩, h5⟩, h6⟩ := h
      exact z_trg2 g h1 h2 h3 h4 (plainX_star (chk_plain _ _ h5)) (plainX_star (chk_plain _ _ h6)) (sndE a c cx W _ g tk h5) (sndE b c cx W _ g tk h6)
    · cases h
  | .dnew tkk, c, cx, W, e, g, tk, h => by
    unfold chkE at h; split at h
    · exact z_dnew g
    · cases h
theorem sndA : ∀ (x : Xps) (c : Ck) (cx : Cx) (W : WX) (es : List Expr), Good Z c cx n → Takes cx W → chkA c x es = true → PAz Z n cx W x es
  | .nil, c, cx, W, es, g, tk, h => by
    cases es with
    | nil => exact z_nilA
    | cons _ _ => simp [chkA] at h
  | .cons a r, c, cx, W, es, g, tk, h => by
    cases es with
    | nil => simp [chkA] at h
    | cons e es =>
      rw [chkA, Bool.and_eq_true] at h
      exact z_consA (plainX_star (chk_plain _ _ h.1)) (sndE a c cx W _ g tk h.1) (sndA r c cx W _ g tk h.2)
theorem sndAnd : ∀ (x : Xps) (c : Ck) (cx : Cx) (W : WX) (es : List Expr) (pos : Pos), Good Z c cx n → Takes cx W → chkA c x es = true → PEz Z n cx W (.andV x) (.BoolOp .And es pos)
  | .nil, c, cx, W, es, pos, g, tk, h => ⟨fun pins s σ H Q I hh => by
    unfold rnE at hh; simp only [runE, runAnd] at hh
    obtain ⟨al, ρ, M, S, E, p⟩ := hh
    exact p.elim⟩
  | .cons a .nil, c, cx, W, es, pos, g, tk, h => by
    cases es with
    | nil => simp [chkA] at h
    | cons e es =>
      rw [chkA, Bool.and_eq_true] at h
      cases es with
      | nil => exact z_and1 (sndE a c cx W _ g tk h.1)
      | cons _ _ => simp [chkA] at h
  | .cons a (.cons b r), c, cx, W, es, pos, g, tk, h => by
    cases es with
    | nil => simp [chkA] at h
    | cons e es =>
      rw [chkA, Bool.and_eq_true] at h
      cases es with
      | nil => simp [chkA] at h
      | cons e' es => exact z_and2 (sndE a c cx W _ g tk h.1) (sndAnd (.cons b r) c cx W _ _ g tk h.2)
theorem sndOr : ∀ (x : Xps) (c : Ck) (cx : Cx) (W : WX) (es : List Expr) (pos : Pos), Good Z c cx n → Takes cx W → chkA c x es = true → PEz Z n cx W (.orV x) (.BoolOp .Or es pos)
  | .nil, c, cx, W, es, pos, g, tk, h => ⟨fun pins s σ H Q I hh => by
    unfold rnE at hh; simp only [runE, runOr] at hh
    obtain ⟨al, ρ, M, S, E, p⟩ := hh
    exact p.elim⟩
  | .cons a .nil, c, cx, W, es, pos, g, tk, h => by
    cases es with
    | nil => simp [chkA] at h
    | cons e es =>
      rw [chkA, Bool.and_eq_true] at h
      cases es with
      | nil => exact z_or1 (sndE a c cx W _ g tk h.1)
      | cons _ _ => simp [chkA] at h
  | .cons a (.cons b r), c, cx, W, es, pos, g, tk, h => by
    cases es with
    | nil => simp [chkA] at h
    | cons e es =>
      rw [chkA, Bool.and_eq_true] at h
      cases es with
      | nil => simp [chkA] at h
      | cons e' es => exact z_or2 (sndE a c cx W _ g tk h.1) (sndOr (.cons b r) c cx W _ _ g tk h.2)
theorem sndO : ∀ (x : Op) (c : Ck) (cx : Cx) (W : WX) (e : Option Expr), Good Z c cx n → Takes cx W → chkO c x e = true → PO cx e (tO Z.toGy W (rnO Z n x))
  | .no, c, cx, W, e, g, tk, h => by
    cases e with
    | none => exact z_no
    | some _ => simp [chkO] at h
  | .so a, c, cx, W, e, g, tk, h => by
    cases e with
    | none => simp [chkO] at h
    | some e => exact z_so (sndE a c cx W _ g tk (by rw [chkO] at h; exact h))
theorem sndT : ∀ (x : Tp) (c : Ck) (cx : Cx) (W : WX) (e : Expr), Good Z c cx n → Takes cx W → chkT c x e = true → PTz Z n cx W x e
  | .val a, c, cx, W, e, g, tk, h => by
    rw [chkT, Bool.and_eq_true] at h
    exact z_val g h.1 (sndE a c cx W _ g tk h.2)
  | .cmp o a b, c, cx, W, e, g, tk, h => by
    unfold chkT at h; split at h
    · simp only [Bool.and_eq_true, decide_eq_true_eq] at h
      obtain ⟨⟨rfl, h1⟩, h2⟩ := h
      exact z_tcmp g (plainX_set (chk_plain _ _ h2)) (sndE a c cx W _ g tk h1) (sndE b c cx W _ g tk h2)
    · cases h
  | .chn o p a b d, c, cx, W, e, g, tk, h => by
    unfold chkT at h; split at h
    · simp only [Bool.and_eq_true, decide_eq_true_eq] at h
      obtain ⟨⟨⟨⟨rfl, rfl⟩, h1⟩, h2⟩, h3⟩ := h
      exact z_tchn g (plainX_set (chk_plain _ _ h3)) (sndE a c cx W _ g tk h1) (sndE b c cx W _ g tk h2) (sndE d c cx W _ g tk h3)
    · cases h
  | .isN a, c, cx, W, e, g, tk, h => by
    unfold chkT at h; split at h
    · exact z_tisN (sndE a c cx W _ g tk h)
    · cases h
  | .notN a, c, cx, W, e, g, tk, h => by
    unfold chkT at h; split at h
    · exact z_tnotN (sndE a c cx W _ g tk h)
    · cases h
  | .tnot t, c, cx, W, e, g, tk, h => by
    unfold chkT at h; split at h
    · exact z_tnot (sndT t c cx W _ g tk h)
    · cases h
  | .tand ts, c, cx, W, e, g, tk, h => by
    unfold chkT at h; split at h
    · exact z_tand (sndTs ts c cx W _ _ g tk h)
    · cases h
  | .tor ts, c, cx, W, e, g, tk, h => by
    unfold chkT at h; split at h
    · exact z_tor (sndTo ts c cx W _ _ g tk h)
    · cases h
theorem sndTs : ∀ (x : Tps) (c : Ck) (cx : Cx) (W : WX) (es : List Expr) (pos : Pos), Good Z c cx n → Takes cx W → chkTs c x es = true → PW cx (.BoolOp .And es pos) (tT Z.toGy W (rnTs Z n x))
  | .nil, c, cx, W, es, pos, g, tk, h => by simp [chkTs] at h
  | .cons a .nil, c, cx, W, es, pos, g, tk, h => by
    unfold chkTs at h; split at h
    · exact z_tand1 (sndT a c cx W _ g tk h)
    · cases h
  | .cons a (.cons b r), c, cx, W, es, pos, g, tk, h => by
    unfold chkTs at h; split at h
    · rw [Bool.and_eq_true] at h
      exact z_tand2 (sndT a c cx W _ g tk h.1) (sndTs (.cons b r) c cx W _ _ g tk h.2)
    · cases h
theorem sndTo : ∀ (x : Tps) (c : Ck) (cx : Cx) (W : WX) (es : List Expr) (pos : Pos), Good Z c cx n → Takes cx W → chkTs c x es = true → PW cx (.BoolOp .Or es pos) (tT Z.toGy W (rnTo Z n x))
  | .nil, c, cx, W, es, pos, g, tk, h => by simp [chkTs] at h
  | .cons a .nil, c, cx, W, es, pos, g, tk, h => by
    unfold chkTs at h; split at h
    · exact z_tor1 (sndT a c cx W _ g tk h)
    · cases h
  | .cons a (.cons b r), c, cx, W, es, pos, g, tk, h => by
    unfold chkTs at h; split at h
    · rw [Bool.and_eq_true] at h
      exact z_tor2 (sndT a c cx W _ g tk h.1) (sndTo (.cons b r) c cx W _ _ g tk h.2)
    · cases h
theorem sndIfs : ∀ (x : Tps) (c : Ck) (cx : Cx) (W : WX) (es : List Expr), Good Z c cx n → Takes cx W → chkIfs c x es = true → PTs cx es (tT Z.toGy W (rnTs Z n x))
  | .nil, c, cx, W, es, g, tk, h => by
    cases es with
    | nil => exact z_pts0
    | cons _ _ => simp [chkIfs] at h
  | .cons a .nil, c, cx, W, es, g, tk, h => by
    unfold chkIfs at h; split at h
    · exact z_pts1 (sndT a c cx W _ g tk h)
    · cases h
  | .cons a (.cons b r), c, cx, W, es, g, tk, h => by simp [chkIfs] at h
theorem sndI : ∀ (x : Ip) (c : Ck) (cx : Cx) (W : WX) (tg e : Expr), Good Z c cx n → Takes cx W → chkI c x e = true → PI cx tg e (tI Z W (rnI Z n x))
  | .val a, c, cx, W, tg, e, g, tk, h => by
    rw [chkI] at h
    exact z_ival g (sndE a c cx W _ g tk h)
  | .rng1 a, c, cx, W, tg, e, g, tk, h => by
    unfold chkI at h; split at h
    · simp only [Bool.and_eq_true, decide_eq_true_eq] at h
      obtain ⟨⟨h1, h2⟩, h3⟩ := h
      exact z_rng1 g h1 h2 (plainX_star (chk_plain _ _ h3)) (sndE a c cx W _ g tk h3)
    · cases h
  | .rng2 a b, c, cx, W, tg, e, g, tk, h => by
    unfold chkI at h; split at h
    · simp only [Bool.and_eq_true, decide_eq_true_eq] at h
      obtain ⟨⟨⟨h1, h2⟩, h3⟩, h4⟩ := h
      exact z_rng2 g h1 h2 (plainX_star (chk_plain _ _ h3)) (plainX_star (chk_plain _ _ h4)) (sndE a c cx W _ g tk h3) (sndE b c cx W _ g tk h4)
    · cases h
end
end
end G

/-! GStm -/
set_option maxRecDepth 100000
set_option maxHeartbeats 4000000
namespace G
open PySem PySem.Spec PyProof.Rows L2

/-- what is wanted of a statement's end -/
def PoS (X : Gy) (W : WX) (D : Ends) (H : Hp) (al : Am) (M : Store) : Out → Prop
  | some (.nx ρ, M') => ∀ al' H' σ', Stp H al M H' al' M' → Sto X.toGx H' al' M' → Envr X.K H' al' M' σ' ρ → D.nx σ' H'
  | some (.bk ρ, M') => ∀ al' H' σ', Stp H al M H' al' M' → Sto X.toGx H' al' M' → Envr X.K H' al' M' σ' ρ → D.bk σ' H'
  | some (.ct ρ, M') => ∀ al' H' σ', Stp H al M H' al' M' → Sto X.toGx H' al' M' → Envr X.K H' al' M' σ' ρ → D.ct σ' H'
  | some (.rt d, M') => ∀ al' H' v, Stp H al M H' al' M' → Sto X.toGx H' al' M' → Rep X.K H' al' M' d v → D.rt v H'
  | some (.er c fs ρ, M') => ∀ al' H' σ' cls dd, Stp H al M H' al' M' → Sto X.toGx H' al' M' → Envr X.K H' al' M' σ' ρ → Exr X H' al' M' c fs cls dd → W cls dd σ' H'
  | none => False
def tS (X : Gy) (W : WX) (f : Rho → Store → Out) : TS := fun D σ H => ∃ al ρ M, Sto X.toGx H al M ∧ Envr X.K H al M σ ρ ∧ PoS X W D H al M (f ρ M)
section
variable {X : Gy} {W : WX} {D : Ends} {σ : L2.St} {ρ : Rho} {H H1 : Hp} {al al1 : Am} {M M1 : Store} {o : Out} {α β : Type} {R : Rl α β}
theorem PoS.step (p : PoS X W D H al M o) (s : Stp H al M H1 al1 M1) : PoS X W D H1 al1 M1 o := by
  match o, p with
  | some (.nx ρ, M'), p => exact fun al' H' σ' s' S E => p al' H' σ' (s.trans s') S E
  | some (.bk ρ, M'), p => exact fun al' H' σ' s' S E => p al' H' σ' (s.trans s') S E
  | some (.ct ρ, M'), p => exact fun al' H' σ' s' S E => p al' H' σ' (s.trans s') S E
  | some (.rt d, M'), p => exact fun al' H' v s' S E => p al' H' v (s.trans s') S E
  | some (.er c fs ρ, M'), p => exact fun al' H' σ' cls dd s' S E x => p al' H' σ' cls dd (s.trans s') S E x
theorem PoS.nxt (S : Sto X.toGx H al M) (E : Envr X.K H al M σ ρ) (p : PoS X W D H al M (some (.nx ρ, M))) : D.nx σ H := p al H σ Stp.refl S E
theorem PoS.ex {r : Res α} {f : α → Store → Out} (S : Sto X.toGx H al M) (E : Envr X.K H al M σ ρ) (p : PoS X W D H al M (withE r ρ f)) :
    Po X R W σ H al M (fun v H1 => ∃ al1 M1 a, Stp H al M H1 al1 M1 ∧ Sto X.toGx H1 al1 M1 ∧ Envr X.K H1 al1 M1 σ ρ ∧ R H1 al1 M1 a v ∧ PoS X W D H1 al1 M1 (f a M1)) r := by
  cases r with
  | ok a M' => exact fun al' H' v s S' r => ⟨al', M', a, s, S', E.mono S s, r, p.step s⟩
  | err c fs M' => exact fun al' H' cls dd s S' x => p al' H' σ cls dd s S' (E.mono S s) x
  | stuck => exact p
/-- a statement that begins with an expression -/
theorem tS_ex {f : Rho → Store → Res α} {g : Rho → α → Store → Out} (h : tS X W (fun ρ M => withE (f ρ M) ρ fun a M1 => g ρ a M1) D σ H) :
    tG X R W f σ H (fun v H1 => ∃ al ρ M a, Sto X.toGx H1 al M ∧ Envr X.K H1 al M σ ρ ∧ R H1 al M a v ∧ PoS X W D H1 al M (g ρ a M)) := by
  obtain ⟨al, ρ, M, S, E, p⟩ := h
  refine ⟨al, ρ, M, S, E, (PoS.ex S E p).mono ?_⟩
  rintro v H1 ⟨al1, M1, a, s, S1, E1, r, p1⟩
  exact ⟨al1, ρ, M1, a, S1, E1, r, p1⟩
end

section
variable {Z : Gz} {n : Nat} {cx : Cx} {c : Ck} {W : WX} {pos : Pos}
noncomputable abbrev rnS (Z : Gz) (n : Nat) (x : Sm) : Rho → Store → Out := fun ρ M => runS Z.P Z.wf (callF Z.P Z.wf n) x ρ M
noncomputable abbrev rnSs (Z : Gz) (n : Nat) (x : Sms) : Rho → Store → Out := fun ρ M => runSs Z.P Z.wf (callF Z.P Z.wf n) x ρ M
abbrev PSz (Z : Gz) (n : Nat) (cx : Cx) (W : WX) (x : Sm) (s : Stmt) : Prop := PS cx s (tS Z.toGy W (rnS Z n x))
abbrev PSsz (Z : Gz) (n : Nat) (cx : Cx) (W : WX) (x : Sms) (s : List Stmt) : Prop := PSs cx s (tS Z.toGy W (rnSs Z n x))
end
end G
namespace L2
open PySem PySem.Spec PyProof.Rows
theorem PS.imp {cx : Cx} {e : Stmt} {t t' : TS} (h : PS cx e t) (i : ∀ D σ H, t' D σ H → t D σ H) : PS cx e t' := ⟨fun pins s σ H D I q => h.run pins s σ H D I (i D σ H q)⟩
theorem PSs.imp {cx : Cx} {e : List Stmt} {t t' : TS} (h : PSs cx e t) (i : ∀ D σ H, t' D σ H → t D σ H) : PSs cx e t' := ⟨fun pins s σ H D I q => h.run pins s σ H D I (i D σ H q)⟩
end L2
namespace G
open PySem PySem.Spec PyProof.Rows L2
def isName : Expr → Bool | .Name .. => true | _ => false
theorem sw_other {t v : Expr} {l : Nat} {env : Env} (h : isName t = false) : swapsWithSole [t] v l env = pure false := by
  show swapsWith v (some t) l env = pure false
  cases v <;> first | rfl | (cases t <;> first | rfl | cases h)
theorem sw_cell {v : Expr} {x : Str} {p : Pos} {l : Nat} {env : Env} (h : env.kindOf x ≠ some .local) : swapsWith v (some (.Name x p)) l env = pure false := by
  have hk : (env.kindOf x == some NameKind.local) = false := by
    cases q : env.kindOf x with
    | none => rfl
    | some k => cases k <;> first | rfl | exact absurd q h
  cases v <;> first
    | rfl
    | (unfold swapsWith; simp only [hk, Bool.and_false, Bool.false_and]; try rfl)
def isTup : Expr → Bool | .Tuple .. => true | .List .. => true | _ => false
theorem swapped_other {t e : Expr} {env : Env} (h : isTup t = false) : swappedStores [t] e env = pure none := by
  cases t <;> first | (cases e <;> rfl) | cases h
section
variable {Z : Gz} {n : Nat} {cx : Cx} {c : Ck} {W : WX} {pos : Pos}
theorem z_nev {s : Stmt} : PSz Z n cx W .nev s := ps_never.imp fun D σ H h => by
  obtain ⟨al, ρ, M, S, E, p⟩ := h
  unfold rnS at p; simp only [runS] at p
  exact p
theorem z_nilS : PSsz Z n cx W .nil [] := pss_nil.imp fun D σ H h => by
  obtain ⟨al, ρ, M, S, E, p⟩ := h
  unfold rnSs at p; simp only [runSs] at p
  exact p.nxt S E
theorem z_consS {a : Sm} {r : Sms} {s : Stmt} {ss : List Stmt} (ha : PSz Z n cx W a s) (hr : PSsz Z n cx W r ss) : PSsz Z n cx W (.cons a r) (s :: ss) := (pss_cons ha hr).imp fun D σ H h => by
  obtain ⟨al, ρ, M, S, E, p⟩ := h
  unfold rnSs at p; simp only [runSs] at p
  refine ⟨al, ρ, M, S, E, ?_⟩
  show PoS _ _ _ _ _ _ (runS Z.P Z.wf (callF Z.P Z.wf n) a ρ M)
  revert p
  match runS Z.P Z.wf (callF Z.P Z.wf n) a ρ M with
  | some (.nx ρ', M') => exact fun p al' H' σ' s S' E' => ⟨al', ρ', M', S', E', PoS.step p s⟩
  | some (.bk ρ', M') => exact fun p => p
  | some (.ct ρ', M') => exact fun p => p
  | some (.rt d, M') => exact fun p => p
  | some (.er c fs ρ', M') => exact fun p => p
  | none => exact fun p => p
theorem z_brk : PSz Z n cx W .brk (.Break pos) := ps_break.imp fun D σ H h => by
  obtain ⟨al, ρ, M, S, E, p⟩ := h
  unfold rnS at p; simp only [runS] at p
  exact p al H σ Stp.refl S E
theorem z_ctn : PSz Z n cx W .ctn (.Continue pos) := ps_continue.imp fun D σ H h => by
  obtain ⟨al, ρ, M, S, E, p⟩ := h
  unfold rnS at p; simp only [runS] at p
  exact p al H σ Stp.refl S E
theorem z_pass : PSz Z n cx W .pass (.Pass pos) := ps_pass.imp fun D σ H h => by
  obtain ⟨al, ρ, M, S, E, p⟩ := h
  unfold rnS at p; simp only [runS] at p
  exact p.nxt S E
theorem z_retN : PSz Z n cx W .retN (.Return none pos) := ps_retN.imp fun D σ H h => by
  obtain ⟨al, ρ, M, S, E, p⟩ := h
  unfold rnS at p; simp only [runS] at p
  exact p al H .non Stp.refl S non_rep
theorem z_ret {a : Xp} {e : Expr} (ha : PEz Z n cx W a e) : PSz Z n cx W (.ret a) (.Return (some e) pos) := (ps_ret ha).imp fun D σ H h => by
  unfold rnS at h; simp only [runS] at h
  refine (tS_ex (R := rE Z.toGy) h).mono ?_
  rintro v H1 ⟨al, ρ, M, d, S, E, r, p⟩
  exact p al H1 v Stp.refl S r
theorem z_ex {a : Xp} {e : Expr} (hn : noComp e = true) (ha : PEz Z n cx W a e) : PSz Z n cx W (.ex a) (.Expr e pos) := (ps_expr ha (noComp_of hn)).imp fun D σ H h => by
  unfold rnS at h; simp only [runS] at h
  refine (tS_ex (R := rE Z.toGy) h).mono ?_
  rintro v H1 ⟨al, ρ, M, d, S, E, r, p⟩
  exact p.nxt S E
theorem z_ite {t : Tp} {a b : Sms} {q : Expr} {xs ys : List Stmt} (ht : PTz Z n cx W t q) (ha : PSsz Z n cx W a xs) (hb : PSsz Z n cx W b ys) : PSz Z n cx W (.ite t a b) (.If q xs ys pos) := (ps_if ht ha hb).imp fun D σ H h => by
  unfold rnS at h; simp only [runS] at h
  refine (tS_ex (R := rId) (f := rnT Z n t) (g := fun ρ k M1 => match k with | true => rnSs Z n a ρ M1 | false => rnSs Z n b ρ M1) h).mono ?_
  rintro k H1 ⟨al, ρ, M, k', S, E, e, p⟩
  cases e
  cases k with
  | true => exact (if_pos rfl).mpr ⟨al, ρ, M, S, E, p⟩
  | false => exact (if_neg (by simp)).mpr ⟨al, ρ, M, S, E, p⟩
/-- name = value, or a pattern of names -/
theorem asg_sem {gp : Gp} {a : Xp} {D : Ends} {σ : L2.St} {H : Hp} (h : tS Z.toGy W (rnS Z n (.asg gp a)) D σ H) : tE Z.toGy W (rnE Z n a) σ H fun x H1 => tGp Z gp x σ H1 D.nx := by
  unfold rnS at h; simp only [runS] at h
  refine (tS_ex (R := rE Z.toGy) (g := fun ρ d M1 => match bindG gp d ρ with | some ρ' => some (.nx ρ', M1) | none => none) h).mono ?_
  rintro v H1 ⟨al, ρ, M, d, S, E, r, p⟩
  cases q : bindG gp d ρ with
  | none => simp only [q] at p; exact p.elim
  | some ρ' =>
    simp only [q] at p
    exact ⟨al, ρ, M, d, ρ', S, E, r, q, fun σ' E' _ => p.nxt S E'⟩
theorem z_asg {gp : Gp} {a : Xp} {tg e : Expr} (hg : PG cx tg (tGp Z gp)) (ha : PEz Z n cx W a e) (hs : swapsWithSole [tg] e pos.line cx.env = pure false) (hw : swappedStores [tg] e cx.env = pure none) (hst : noStar tg = true) : PSz Z n cx W (.asg gp a) (.Assign [tg] e pos) :=
  (ps_asg ha hg hs hw (assignEach_one hst)).imp fun D σ H h => asg_sem h
theorem z_asgF {o a : Xp} {f : Nat} {l e : Expr} {x : Str} {p' : Pos} (g : Good Z c cx n) (hm : c.nmd f x = true) (ho : PEz Z n cx W o l) (ha : PEz Z n cx W a e) : PSz Z n cx W (.asgF o f a) (.Assign [.Attribute l x p'] e pos) :=
  (ps_fld (f := x) ho ha (sw_other (t := .Attribute l x p') (l := pos.line) (env := cx.env) rfl)).imp fun D σ H h => by
    obtain ⟨rfl, hml⟩ := Ck.nmd_of g.P hm
    unfold rnS at h; simp only [runS] at h
    obtain ⟨al, ρ, M, S, E, p⟩ := h
    refine ⟨al, ρ, M, S, E, (PoS.ex (R := rE Z.toGy) S E p).mono ?_⟩
    rintro y H1 ⟨al1, M1, d, s1, S1, E1, r1, p1⟩
    refine ⟨al1, ρ, M1, S1, E1, (PoS.ex (R := rE Z.toGy) S1 E1 p1).mono ?_⟩
    rintro v H2 ⟨al2, M2, b, s2, S2, E2, r2, p2⟩
    have r1' := Rep.mono S1 s2 _ _ r1
    split at p2
    · rename_i m
      split at p2
      · rename_i k fs e
        split at p2
        · rename_i hf
          obtain ⟨a, dx, vfs, rfl, hget, hH, hfs, hlt, hlv⟩ := ins_at S2 r2 e
          have hF := hf.1
          unfold hasF at hF
          split at hF
          · rename_i kl ek
            have hno := g.lnk.noat k kl f ek (by simpa using hF)
            have hcl := g.lnk.cls k kl ek
            have hlen : vfs.length = fs.length := by
              have : ∀ {fs : List (Nat × G.D)} {vfs : List (Str × V)}, Fsr Z.nm Z.K H2 al2 M2 fs vfs → vfs.length = fs.length := by
                intro fs
                induction fs with
                | nil => intro vfs h; rw [show vfs = [] from h]; rfl
                | cons p fs ih =>
                  intro vfs h
                  obtain ⟨v, r, e, _, h2⟩ := h
                  rw [e, List.length_cons, List.length_cons, ih h2]
              exact this hfs
            refine ⟨a, Z.cl k, dx, vfs, rfl, hH, hcl, hno, by rw [hlen]; omega, ?_⟩
            have hset := Fsr.set (X := Z.toGx) g.lnk.nms hml r1' hlt hfs
            have st : Stp H2 al2 M2 (upd H2 a (.ins (Z.cl k) dx (putF (Z.nm f) y vfs))) al2 (M2.set m (.ins k (setF f d fs))) := Stp.chg S2 hlv hget
            exact p2 al2 _ σ st (S2.chg hlv hget ⟨dx, _, upd_same, Fsr.mono S2 st _ _ hset.1, hset.2⟩) (E2.mono S2 st)
          · cases hF
        · exact p2.elim
      · exact p2.elim
    · exact p2.elim
/-- o[i] = v of a list or a dict -/
def rSetLD : TSet := fun o i v H Q => rSetL o i v H Q ∨ rSetD o i v H Q
theorem set_ld {X : Cx} (hu : X.A.units + 1 < cLine) : PSet X rSetLD := by
  intro pins s σ H o i v ov iv u Q I ro ri rv h
  rcases h with h | h
  · exact set_list pins s σ H o i v ov iv u Q I ro ri rv h
  · exact set_dict hu pins s σ H o i v ov iv u Q I ro ri rv h
theorem dput_at {X : Gy} {H : Hp} {al : Am} {M : Store} {m : Nat} {y d : G.D} {u v w : V} {tk : Bool} {kvs : List (G.D × G.D)} (S : Sto X.toGx H al M) (rx : Rep X.K H al M (.ptr m) u) (ry : Rep X.K H al M y v) (rd : Rep X.K H al M d w) (e : M[m]? = some (.dic tk kvs)) (hk : isKey tk y = true) (hl : kvs.length < big) :
    ∃ a H4, u = .ref a ∧ al.ad[m]? = some a ∧ live M m ∧ DPut H a v w H4 ∧ Stp H al M H4 al (M.set m (.dic tk (dput kvs y d))) ∧ Sto X.toGx H4 al (M.set m (.dic tk (dput kvs y d))) := by
  rw [Rep] at rx
  obtain ⟨a, rfl, ha⟩ := rx
  obtain ⟨z, h1, h2⟩ := S.at_ m _ a e ha
  have hlv : live M m := ⟨_, e, rfl⟩
  cases tk with
  | false =>
    obtain ⟨xs, rfl, r⟩ := h2
    obtain ⟨k, rfl⟩ := isKey1_ex hk
    obtain rfl := kV_rep ry
    have st : Stp H al M (upd H a (.dK (putK xs k w))) al (M.set m (.dic false (dput kvs (kD k) d))) := Stp.chg S hlv ha
    refine ⟨a, _, rfl, ha, hlv, .inl ⟨xs, k, h1, rfl, by rw [r.length]; exact hl, rfl⟩, st, S.chg hlv ha ⟨_, upd_same, ?_⟩⟩
    exact ⟨_, rfl, (r.put eqd_kD k rd).mono S st⟩
  | true =>
    obtain ⟨xs, rfl, r⟩ := h2
    cases y with
    | tup ds =>
      obtain ⟨ks, rfl⟩ := isKey1s_ex hk
      obtain ⟨b, vs, rfl, hb, rs⟩ := tup_at ry
      obtain rfl := kVs_rep rs
      have st : Stp H al M (upd H a (.dT (putK xs ks w))) al (M.set m (.dic true (dput kvs (tD ks) d))) := Stp.chg S hlv ha
      refine ⟨a, _, rfl, ha, hlv, .inr ⟨xs, ks, b, h1, rfl, hb, by rw [r.length]; exact hl, rfl⟩, st, S.chg hlv ha ⟨_, upd_same, ?_⟩⟩
      exact ⟨_, rfl, (r.put eqd_tD ks rd).mono S st⟩
    | _ => cases hk
theorem z_asgI {o i a : Xp} {l r e : Expr} {p' : Pos} (g : Good Z c cx n) (hsl : noSlice r = true) (ho : PEz Z n cx W o l) (hi : PEz Z n cx W i r) (ha : PEz Z n cx W a e) : PSz Z n cx W (.asgI o i a) (.Assign [.Subscript l r p'] e pos) :=
  (ps_asg ha (pg_sub ho hi (set_ld (by have := g.units; omega)) (by intro v; cases r <;> first | rfl | cases hsl)) (sw_other rfl) (swapped_other rfl) rfl).imp fun D σ H h => by
    unfold rnS at h; simp only [runS] at h
    obtain ⟨al, ρ, M, S, E, p⟩ := h
    refine ⟨al, ρ, M, S, E, (PoS.ex (R := rE Z.toGy) S E p).mono ?_⟩
    rintro y H1 ⟨al1, M1, d, s1, S1, E1, r1, p1⟩
    refine ⟨al1, ρ, M1, S1, E1, (PoS.ex (R := rE Z.toGy) S1 E1 p1).mono ?_⟩
    rintro v H2 ⟨al2, M2, b, s2, S2, E2, r2, p2⟩
    refine ⟨al2, ρ, M2, S2, E2, (PoS.ex (R := rE Z.toGy) S2 E2 p2).mono ?_⟩
    rintro u H3 ⟨al3, M3, j, s3, S3, E3, r3, p3⟩
    have r1' := Rep.mono S1 (s2.trans s3) _ _ r1
    have r2' := Rep.mono S2 s3 _ _ r2
    split at p3
    · rename_i y0 m
      split at p3
      · rename_i xs e
        split at p3
        · rename_i k
          split at p3
          · rename_i jj ej
            obtain ⟨a, vs, rfl, hget, hH, hr, hlv⟩ := ptr_at (X := Z.toGy) S3 r2' e
            cases rep_int (X := Z.toGy) r3
            refine .inl ⟨a, vs, k, jj, rfl, rfl, hH, by rw [hr.length]; exact ej, ?_⟩
            have st : Stp H3 al3 M3 (upd H3 a (.lst (vs.set jj y))) al3 (M3.set m (.lst (xs.set jj d))) := Stp.chg S3 hlv hget
            exact p3 al3 _ σ st (S3.chg hlv hget ⟨_, upd_same, Reps.mono S3 st _ _ (Reps.setl r1' jj hr)⟩) (E3.mono S3 st)
          · exact p3.elim
        · exact p3.elim
      · rename_i tk kvs e
        split at p3
        · rename_i hk
          obtain ⟨a, H4, rfl, hget, hlv, hput, hst, hS⟩ := dput_at (X := Z.toGy) (d := d) S3 r2' r3 r1' e hk.1 hk.2
          exact .inr ⟨a, H4, rfl, hput, p3 al3 H4 σ hst hS (E3.mono S3 hst)⟩
        · exact p3.elim
      · exact p3.elim
    · exact p3.elim
theorem z_aug {i : Nat} {op : Bop} {a : Xp} {e : Expr} {x : Str} {p' : Pos} (g : Good Z c cx n) (ht : c.tgt i x = true) (hop : op = .add ∨ op = .sub) (ha : PEz Z n cx W a e) : PSz Z n cx W (.aug i op a) (.AugAssign (.Name x p') (astB op) e pos) := by
  obtain ⟨h1, h2, h3⟩ := Ck.tgt_of g ht
  have key : ∀ {f : Int → Int → Int} {k : Bop}, (∀ a b : Int, ∀ (ρ : Rho) (M1 : Store), (match k with | .add => some (Fl.nx (ρ.set i (some (.int (a + b)))), M1) | .sub => some (.nx (ρ.set i (some (.int (a - b)))), M1) | _ => none) = some (Fl.nx (ρ.set i (some (.int (f a b)))), M1)) → ∀ D σ H, tS Z.toGy W (rnS Z n (.aug i k a)) D σ H → tAug i (tE Z.toGy W (rnE Z n a)) (ipI f) D σ H := by
    intro f k hf D σ H h
    unfold rnS at h; simp only [runS] at h
    obtain ⟨al, ρ, M, S, E, p⟩ := h
    dsimp only at p
    split at p
    · rename_i x e1
      obtain ⟨v, hv, rv⟩ := E.at_ i x e1
      refine ⟨v, hv, al, ρ, M, S, E, (PoS.ex (R := rE Z.toGy) S E p).mono ?_⟩
      rintro y H1 ⟨al1, M1, d, s1, S1, E1, r1, p1⟩
      have rv' := Rep.mono S s1 _ _ rv
      split at p1
      · rename_i a b
        cases rep_int (X := Z.toGy) r1
        cases rep_int (X := Z.toGy) rv'
        refine ⟨a, b, rfl, rfl, ?_⟩
        exact PoS.nxt S1 (E1.set (by rw [Rep]) i) ((congrArg (PoS Z.toGy W D H1 al1 M1) (hf a b ρ M1)).mp p1)
      · exact p1.elim
    · exact p.elim
  rcases hop with rfl | rfl
  · exact (ps_aug (by rw [g.N]; exact g.nd) h1 h2 ha ip_add h3).imp (key fun a b ρ M1 => rfl)
  · exact (ps_aug (by rw [g.N]; exact g.nd) h1 h2 ha ip_sub h3).imp (key fun a b ρ M1 => rfl)
end
end G

/-! GLok -/
set_option maxRecDepth 100000
set_option maxHeartbeats 4000000
namespace G
open PySem PySem.Spec PyProof.Rows L2
section
variable {X : Gy} {K : PySem.W.Frag} {H H' : Hp} {al al' : Am} {M M' : Store} {d : Addr} {od : Obj} {u : HO} {n : Nat} {tk : Bool} {kvs : List (G.D × G.D)}
theorem Dcr.isd {w : HO} (h : Dcr tk K H al M kvs w) : (∃ xs, w = .dK xs) ∨ ∃ xs, w = .dT xs := by
  cases tk with
  | false => obtain ⟨xs, e, _⟩ := h; exact .inl ⟨xs, e⟩
  | true => obtain ⟨xs, e, _⟩ := h; exact .inr ⟨xs, e⟩
/-- behind the loop: the heap with the dict given free -/
structure Unl (H' : Hp) (al' : Am) (M' : Store) (d : Addr) (od : Obj) (u : HO) (n : Nat) (tk : Bool) (kvs : List (G.D × G.D)) : Prop where
  at_ : al'.ad[n]? = some d
  fz : H' d = some (.frz od u)
  isd : (∃ xs, u = .dK xs) ∨ ∃ xs, u = .dT xs
  st : M'[n]? = some (.fdic tk kvs)
theorem Unl.nel (h : Unl H' al' M' d od u n tk kvs) {a : Addr} {vs : List V} (e : H' a = some (.lst vs)) : a ≠ d := by rintro rfl; rw [h.fz] at e; cases e
theorem Unl.net (h : Unl H' al' M' d od u n tk kvs) {a : Addr} {vs : List V} (e : H' a = some (.tup vs)) : a ≠ d := by rintro rfl; rw [h.fz] at e; cases e
theorem Unl.hot (h : Unl H' al' M' d od u n tk kvs) {a : Addr} (ha : a ≠ d) (hh : Hot al' (M'.set n (.dic tk kvs)) a) : Hot al' M' a := by
  rcases hh with ⟨k, hk, e⟩ | hp
  · by_cases q : n = k
    · subst q
      rw [h.at_] at e
      exact absurd (Option.some.inj e).symm ha
    · obtain ⟨o, e1, ho⟩ := hk
      rw [List.getElem?_set_ne q] at e1
      exact .inl ⟨k, ⟨o, e1, ho⟩, e⟩
  · exact .inr hp
mutual
theorem Rep.unl (h : Unl H' al' M' d od u n tk kvs) : ∀ (x : G.D) (v : V), Rep K H' al' M' x v → Rep K (upd H' d u) al' (M'.set n (.dic tk kvs)) x v
  | .non, _, r => by rw [Rep] at r ⊢; exact r
  | .bl _, _, r => by rw [Rep] at r ⊢; exact r
  | .int _, _, r => by rw [Rep] at r ⊢; exact r
  | .str _, _, r => by rw [Rep] at r ⊢; exact r
  | .tup ds, v, r => by
    rw [Rep] at r ⊢
    obtain ⟨a, vs, e, h1, h2⟩ := r
    exact ⟨a, vs, e, by rw [upd_ne (h.net h1)]; exact h1, Reps.unl h ds vs h2⟩
  | .lst ds, v, r => by
    rw [Rep] at r ⊢
    obtain ⟨a, vs, e, h1, h2, h3⟩ := r
    exact ⟨a, vs, e, by rw [upd_ne (h.nel h1)]; exact h1, fun q => h2 (h.hot (h.nel h1) q), Reps.unl h ds vs h3⟩
  | .scr ns, v, r => by
    rw [Rep] at r ⊢
    obtain ⟨a, e, h1⟩ := r
    refine ⟨a, e, ?_⟩
    rcases h1 with ⟨o, h1⟩ | h1
    · refine .inl ⟨o, ?_⟩
      rw [upd_ne]; exact h1
      rintro rfl
      rw [h.fz] at h1
      rcases h.isd with ⟨xs, rfl⟩ | ⟨xs, rfl⟩ <;> cases h1
    · exact .inr h1
  | .ptr m, v, r => by rw [Rep] at r ⊢; exact r
theorem Reps.unl (h : Unl H' al' M' d od u n tk kvs) : ∀ (xs : List G.D) (vs : List V), Reps K H' al' M' xs vs → Reps K (upd H' d u) al' (M'.set n (.dic tk kvs)) xs vs
  | [], _, r => by rw [Reps] at r ⊢; exact r
  | x :: xs, vs, r => by
    rw [Reps] at r ⊢
    obtain ⟨v, r', e, h1, h2⟩ := r
    exact ⟨v, r', e, Rep.unl h x v h1, Reps.unl h xs r' h2⟩
end
theorem Fsr.unl {nm : Nat → Str} (h : Unl H' al' M' d od u n tk kvs) : ∀ (fs : List (Nat × G.D)) (vs : List (Str × V)), Fsr nm K H' al' M' fs vs → Fsr nm K (upd H' d u) al' (M'.set n (.dic tk kvs)) fs vs
  | [], _, r => r
  | p :: ds, vs, r => by
    obtain ⟨v, r', e, h1, h2⟩ := r
    exact ⟨v, r', e, Rep.unl h _ v h1, Fsr.unl h ds r' h2⟩
theorem Dr.unl {κ : Type} {kf : κ → G.D} (h : Unl H' al' M' d od u n tk kvs) : ∀ (ds : List (G.D × G.D)) (vs : List (κ × V)), Dr kf K H' al' M' ds vs → Dr kf K (upd H' d u) al' (M'.set n (.dic tk kvs)) ds vs
  | [], _, r => r
  | p :: ds, vs, r => by
    obtain ⟨k, v, r', e, hk, h1, h2⟩ := r
    exact ⟨k, v, r', e, hk, Rep.unl h _ v h1, Dr.unl h ds r' h2⟩
theorem Dcr.unl {tk' : Bool} {kv' : List (G.D × G.D)} {w : HO} (h : Unl H' al' M' d od u n tk kvs) (r : Dcr tk' K H' al' M' kv' w) : Dcr tk' K (upd H' d u) al' (M'.set n (.dic tk kvs)) kv' w := by
  cases tk' with
  | false => obtain ⟨xs, e, r⟩ := r; exact ⟨xs, e, r.unl h⟩
  | true => obtain ⟨xs, e, r⟩ := r; exact ⟨xs, e, r.unl h⟩
theorem Envr.unl {σ : L2.St} {ρ : Rho} (h : Unl H' al' M' d od u n tk kvs) (E : Envr K H' al' M' σ ρ) : Envr K (upd H' d u) al' (M'.set n (.dic tk kvs)) σ ρ :=
  ⟨E.len, fun i x e => let ⟨v, e1, r⟩ := E.at_ i x e; ⟨v, e1, Rep.unl h _ _ r⟩⟩
theorem Sto.unl (S : Sto X.toGx H' al' M') (h : Unl H' al' M' d od u n tk kvs) : Sto X.toGx (upd H' d u) al' (M'.set n (.dic tk kvs)) := by
  have hn : n < M'.length := (List.getElem?_eq_some_iff.mp h.st).1
  -- a hot place is not at d
  have nd : ∀ (k : Nat) (o : Ob) (a : Addr), M'[k]? = some o → o.hot = true → al'.ad[k]? = some a → a ≠ d := fun k o a e ho ha => by
    rintro rfl
    rcases S.hot (.inl ⟨k, ⟨o, e, ho⟩, ha⟩) with ⟨_, q⟩ | ⟨_, _, _, q⟩ | ⟨_, q⟩ | ⟨_, q⟩ <;> rw [h.fz] at q <;> cases q
  have lv : ∀ k, n ≠ k → live (M'.set n (.dic tk kvs)) k → live M' k := fun k q hk => by
    obtain ⟨o, e1, ho⟩ := hk
    rw [List.getElem?_set_ne q] at e1
    exact ⟨o, e1, ho⟩
  refine ⟨by simp [S.len], fun k o a e ha => ?_, fun i j a hi hj ei ej => ?_, fun a ha => ?_, fun k a hk e hp => ?_⟩
  · by_cases q : n = k
    · subst q
      rw [List.getElem?_set_self hn] at e
      cases e
      rw [h.at_] at ha
      cases ha
      obtain ⟨o', u', e1, r⟩ := S.at_ n _ d h.st h.at_
      rw [h.fz] at e1
      cases e1
      exact ⟨u, upd_same, r.unl h⟩
    · rw [List.getElem?_set_ne q] at e
      have old := S.at_ k o a e ha
      cases o with
      | dead => trivial
      | lst ds => obtain ⟨vs, e1, r⟩ := old; exact ⟨vs, by rw [upd_ne (h.nel e1)]; exact e1, Reps.unl h _ _ r⟩
      | ins c fs => obtain ⟨dx, vfs, e1, r, q'⟩ := old; exact ⟨dx, vfs, by rw [upd_ne (nd k _ a e rfl ha)]; exact e1, Fsr.unl h _ _ r, q'⟩
      | dic tk' kv' => obtain ⟨w, e1, r⟩ := old; exact ⟨w, by rw [upd_ne (nd k _ a e rfl ha)]; exact e1, r.unl h⟩
      | fdic tk' kv' =>
        -- two frozen places are not one: the second one would have been locked again
        obtain ⟨o, w, e1, r⟩ := old
        by_cases qa : a = d
        · subst qa
          exact absurd (S.inj n k a ⟨_, h.st, by simp⟩ ⟨_, e, by simp⟩ h.at_ ha) q
        · exact ⟨o, w, by rw [upd_ne qa]; exact e1, r.unl h⟩
  · have nl : ∀ k, ndl (M'.set n (.dic tk kvs)) k → ndl M' k := fun k hk => by
      by_cases q : n = k
      · subst q; exact ⟨_, h.st, by simp⟩
      · obtain ⟨o, e1, ho⟩ := hk
        rw [List.getElem?_set_ne q] at e1
        exact ⟨o, e1, ho⟩
    exact S.inj i j a (nl i hi) (nl j hj) ei ej
  · obtain ⟨vs, e⟩ := S.pvl a ha
    exact ⟨vs, by rw [upd_ne (h.nel e)]; exact e⟩
  · by_cases q : n = k
    · subst q
      rw [h.at_] at e
      cases e
      obtain ⟨vs, e'⟩ := S.pvl d hp
      exact h.nel e' rfl
    · exact S.pvd k a (lv k q hk) e hp
/-- the whole of it: locked, run, given free -/
theorem Stp.unl {ob : Ob} {tk' : Bool} {kv' : List (G.D × G.D)} (S : Sto X.toGx H al M) (hl : live M n) (ha : al.ad[n]? = some d) (s : Stp (upd H d (.frz od u)) al (M.set n (.fdic tk' kv')) H' al' M') : Stp H al M (upd H' d u) al' (M'.set n ob) := by
  have hpv : ¬ al.pv d := S.pvd n d hl ha
  have n1 : ∀ a, ¬ Hot al M a → ¬ Hot al (M.set n (.fdic tk' kv')) a := fun a h q => by
    rcases q with ⟨k, hk, e⟩ | q
    · exact h (.inl ⟨k, live_set hl k hk, e⟩)
    · exact h (.inr q)
  refine ⟨s.pre, s.pv, fun a h => ?_, fun a o e h => ?_, fun a h => ?_, fun k hk h => ?_, fun k a hk e => ?_⟩
  · have : a ≠ d := by rintro rfl; exact hpv h
    rw [upd_ne this, s.pvk a h, upd_ne this]
  · have : a ≠ d := by rintro rfl; exact h (.inl ⟨n, hl, ha⟩)
    rw [upd_ne this]
    exact s.keep a o (by rw [upd_ne this]; exact e) (n1 a h)
  · by_cases q : a = d
    · subst q; rw [upd_same]; simp
    · rw [upd_ne q]
      exact s.dom a (by rw [upd_ne q]; exact h)
  · by_cases q : n = k
    · subst q; exact hl
    · have : live M' k := by
        obtain ⟨o, e1, ho⟩ := h
        rw [List.getElem?_set_ne q] at e1
        exact ⟨o, e1, ho⟩
      exact live_set hl k (s.alive k hk this)
  · have h1 := s.new k a hk e
    by_cases q : a = d
    · subst q; rw [upd_same] at h1; cases h1
    · rw [upd_ne q] at h1; exact h1
/-- the locked dict's address is nobody's to change -/
theorem lock_cold {tk' : Bool} {kv' : List (G.D × G.D)} (S : Sto X.toGx H al M) (hl : live M n) (ha : al.ad[n]? = some d) : ¬ Hot al (M.set n (.fdic tk' kv')) d := by
  rintro (⟨k, hk, e⟩ | hp)
  · have : n = k := S.inj n k d hl.nd (live_set hl k hk).nd ha e
    subst this
    obtain ⟨o, e1, ho⟩ := hk
    rw [List.getElem?_set_self (live_lt hl)] at e1
    cases e1
    cases ho
  · exact S.pvd n d hl ha hp
/-- the ends while the dict is locked -/
def lockD (D : Ends) (d : Addr) (od : Obj) (u : HO) : Ends := ⟨fun σ' H' => H' d = some (.frz od u) ∧ D.nx σ' (upd H' d u), fun v H' => H' d = some (.frz od u) ∧ D.rt v (upd H' d u), fun σ' H' => H' d = some (.frz od u) ∧ D.bk σ' (upd H' d u), fun σ' H' => H' d = some (.frz od u) ∧ D.ct σ' (upd H' d u)⟩
theorem PoS.unl {W : WX} {D : Ends} {o : Out} {tk' : Bool} {kv' : List (G.D × G.D)} (S : Sto X.toGx H al M) (hl : live M n) (ha : al.ad[n]? = some d) (hi : (∃ xs, u = .dK xs) ∨ ∃ xs, u = .dT xs) (p : PoS X W D H al M (unlk n o)) :
    PoS X W (lockD D d od u) (upd H d (.frz od u)) al (M.set n (.fdic tk' kv')) o := by
  have fz : ∀ {H' : Hp} {al' : Am} {M' : Store}, Stp (upd H d (.frz od u)) al (M.set n (.fdic tk' kv')) H' al' M' → H' d = some (.frz od u) := fun s => s.keep d _ upd_same (lock_cold S hl ha)
  match o with
  | some (.nx ρ, M') =>
    simp only [unlk] at p
    split at p
    · rename_i tk kvs e
      intro al' H' σ' s S' E
      have U : Unl H' al' M' d od u n tk kvs := ⟨s.get ha, fz s, hi, e⟩
      exact ⟨fz s, p al' _ σ' (Stp.unl S hl ha s) (S'.unl U) (E.unl U)⟩
    · exact p.elim
  | some (.rt x, M') =>
    simp only [unlk] at p
    split at p
    · rename_i tk kvs e
      intro al' H' v s S' r
      have U : Unl H' al' M' d od u n tk kvs := ⟨s.get ha, fz s, hi, e⟩
      exact ⟨fz s, p al' _ v (Stp.unl S hl ha s) (S'.unl U) (Rep.unl U _ _ r)⟩
    · exact p.elim
  | some (.bk ρ, M') => exact p.elim
  | some (.ct ρ, M') => exact p.elim
  | some (.er c fs ρ, M') => exact p.elim
  | none => exact p.elim
end
end G

/-! GStn -/
set_option maxRecDepth 100000
set_option maxHeartbeats 4000000
namespace L2
open PySem PySem.Spec PyProof.Rows
theorem get_lst {X : Cx} : PGet X (rIxL X.K) := by
  intro pins s σ H x y v u Q I rx ry h
  obtain ⟨p, xs, i, z, rfl, rfl, hq, he, q⟩ := h
  cases rx
  obtain ⟨t, rfl⟩ := ry
  obtain ⟨its, r, pl, hz⟩ := I.list hq
  obtain ⟨j, g1, g2, g3, g4, g5⟩ := atI_get he
  obtain ⟨w, ew, hw⟩ := r.get g2
  have hl := r.length
  have hn := line63
  have fin : EP X pins σ Q w s := ⟨z, H, I, hw, q⟩
  by_cases h0 : 0 ≤ i
  · have hj : i.toNat = j := Option.some.inj ((seqIndex_of h0 g5).symm.trans g1)
    exact wpAny_getItem_list pl.isList h0 (by omega) (by rw [hj]; simpa using ew) fin
  · have hj : (i + (its.toArray.size : Int)).toNat = j := by
      rw [seqIndex_neg (by omega) g4] at g1
      rw [List.size_toArray, ← hl]
      exact Option.some.inj g1
    exact wpAny_getItem_list_neg pl.isList (by omega) (by rw [List.size_toArray] <;> omega) (by omega) (by rw [hj]; simpa using ew) fin
end L2
namespace G
open PySem PySem.Spec PyProof.Rows L2
section
variable {Z : Gz} {n : Nat} {cx : Cx} {c : Ck} {W : WX} {pos : Pos}
theorem z_augI {o i a : Xp} {op : Bop} {l r e : Expr} {p' : Pos} (g : Good Z c cx n) (hsl : noSlice r = true) (hop : op = .add ∨ op = .sub) (ho : PEz Z n cx W o l) (hi : PEz Z n cx W i r) (ha : PEz Z n cx W a e) : PSz Z n cx W (.augI o i op a) (.AugAssign (.Subscript l r p') (astB op) e pos) := by
  have key : ∀ {f : Int → Int → Int} {k : Bop}, (∀ (a b : Int) (m j : Nat) (ys : List G.D) (ρ : Rho) (M3 : Store), (match k with | .add => some (Fl.nx ρ, M3.set m (.lst (ys.set j (.int (a + b))))) | .sub => some (Fl.nx ρ, M3.set m (.lst (ys.set j (.int (a - b))))) | _ => none) = some (Fl.nx ρ, M3.set m (.lst (ys.set j (.int (f a b)))))) →
      ∀ D σ H, tS Z.toGy W (rnS Z n (.augI o i k a)) D σ H → tAugS (tE Z.toGy W (rnE Z n o)) (tE Z.toGy W (rnE Z n i)) (tE Z.toGy W (rnE Z n a)) (rIxL cx.K) (ipI f) rSetL D σ H := by
    intro f k hf D σ H h
    unfold rnS at h; simp only [runS] at h
    obtain ⟨al, ρ, M, S, E, p⟩ := h
    refine ⟨al, ρ, M, S, E, (PoS.ex (R := rE Z.toGy) S E p).mono ?_⟩
    rintro y H1 ⟨al1, M1, d, s1, S1, E1, r1, p1⟩
    refine ⟨al1, ρ, M1, S1, E1, (PoS.ex (R := rE Z.toGy) S1 E1 p1).mono ?_⟩
    rintro v H2 ⟨al2, M2, b, s2, S2, E2, r2, p2⟩
    have r1' := Rep.mono S1 s2 _ _ r1
    split at p2
    · rename_i m k2
      split at p2
      · rename_i xs e
        split at p2
        · rename_i x ex
          obtain ⟨a1, vs, rfl, hget, hH, hr, hlv⟩ := ptr_at (X := Z.toGy) S2 r1' e
          cases rep_int (X := Z.toGy) r2
          obtain ⟨w, hw, rw'⟩ := atI_reps hr ex
          refine ⟨a1, vs, k2, w, rfl, rfl, SqL.of hH, hw, ?_⟩
          refine ⟨al2, ρ, M2, S2, E2, (PoS.ex (R := rE Z.toGy) S2 E2 p2).mono ?_⟩
          rintro u H3 ⟨al3, M3, z, s3, S3, E3, r3, p3⟩
          have r1'' := Rep.mono S2 s3 _ _ r1'
          have rx := Rep.mono S2 s3 _ _ rw'
          split at p3
          · rename_i bb
            cases rep_int (X := Z.toGy) r3
            cases rep_int (X := Z.toGy) rx
            split at p3
            · rename_i ys e3
              split at p3
              · rename_i j ej
                obtain ⟨a2, vs2, ea, hget2, hH2, hr2, hlv2⟩ := ptr_at (X := Z.toGy) S3 r1'' e3
                cases ea
                refine ⟨_, _, rfl, rfl, a1, vs2, k2, j, rfl, rfl, hH2, by rw [hr2.length]; exact ej, ?_⟩
                have p4 := (congrArg (PoS Z.toGy W D H3 al3 M3) (hf x bb m j ys ρ M3)).mp p3
                have st : Stp H3 al3 M3 (upd H3 a1 (.lst (vs2.set j (.int (f x bb))))) al3 (M3.set m (.lst (ys.set j (.int (f x bb))))) := Stp.chg S3 hlv2 hget2
                exact p4 al3 _ σ st (S3.chg hlv2 hget2 ⟨_, upd_same, Reps.mono S3 st _ _ (Reps.setl (by rw [Rep]) j hr2)⟩) (E3.mono S3 st)
              · exact p3.elim
            · exact p3.elim
          · exact p3.elim
        · exact p2.elim
      · exact p2.elim
    · exact p2.elim
  have hau : ∀ ov iv new, augStore r ov iv new = (do holding [new, ov, iv] (setItem ov iv new); release [new, ov, iv] []; pure .next) := by
    intro ov iv new
    cases r <;> first | rfl | cases hsl
  rcases hop with rfl | rfl
  · exact (ps_augS ho hi get_lst ha ip_add set_list hau).imp (key fun _ _ _ _ _ _ _ => rfl)
  · exact (ps_augS ho hi get_lst ha ip_sub set_list hau).imp (key fun _ _ _ _ _ _ _ => rfl)

/-- a, b = x, y -/
def parB (c : Ck) (x y : Str) (px py : Pos) (a b : Expr) : Bool :=
  (match c.sc.names.lookup x with | some .local => true | _ => false) && (match c.sc.names.lookup y with | some .local => true | _ => false) && (px.line == py.line) && !(x == y) &&
    !(foldedForSure 8 a && foldedForSure 8 b) && !(constantsAlone 8 a && constantsAlone 8 b) && noStar a && noStar b
def isStar : Expr → Bool | .Starred .. => true | _ => false
theorem par_of {x y : Str} {px py pt p2 : Pos} {kt k2 : Nat} {a b : Expr} {env : Env} (hk : env.scope.kind = .function) (h1 : env.scope.names.lookup x = some .local) (h2 : env.scope.names.lookup y = some .local) (h3 : (px.line == py.line) = true) (h4 : (x == y) = false)
    (h5 : (foldedForSure 8 a && foldedForSure 8 b) = false) (h6 : (constantsAlone 8 a && constantsAlone 8 b) = false) (h7 : noStar a = true) (h8 : noStar b = true) :
    swappedStores [.Tuple [.Name x px, .Name y py] kt pt] (.Tuple [a, b] k2 p2) env = pure (some [x, y]) := by
  have hb : env.blockKind = .function := by unfold Env.blockKind; rw [hk]; rfl
  have kx : env.kindOf x = some .local := h1
  have ky : env.kindOf y = some .local := h2
  have hs1 : ∀ e : Expr, noStar e = true → isStar e = false := by
    intro e h
    cases e <;> first | rfl | (have h' : false = true := h; cases h')
  have hst : List.any [a, b] (fun | .Starred .. => true | _ => false) = false := by
    show (isStar a || (isStar b || false)) = false
    rw [hs1 a h7, hs1 b h8]; rfl
  have h3' : (py.line == px.line) = true := by
    rw [beq_iff_eq] at h3 ⊢; exact h3.symm
  have hyx : (y == x) = false := by
    rw [beq_eq_false_iff_ne] at h4 ⊢; exact h4.symm
  have hpx : (px.line == px.line) = true := beq_self_eq_true _
  have herase : [x, y].eraseDups = [x, y] := by
    rw [List.eraseDups_cons]
    have hf : List.filter (fun b => !b == x) [y] = [y] := by simp [List.filter, hyx]
    rw [hf, List.eraseDups_cons]
    rfl
  unfold swappedStores
  simp only [List.length_cons, List.length_nil, hb, hst, List.head?_cons, Option.map_some, Option.getD_some, Expr.pos]
  show (_ : Sem (Option (List Str))) = _
  have e1 : List.all [a, b] (foldedForSure 8) = false := by simpa [List.all_cons] using h5
  have e2 : List.all [a, b] (constantsAlone 8) = false := by simpa [List.all_cons] using h6
  simp only [List.filterMap_cons, List.filterMap_nil, kx, ky, hpx, h3', beq_self_eq_true, Bool.and_self, if_true, herase, e1, e2]
  exact (if_neg (by decide)).trans ((if_neg (fun h => Bool.false_ne_true (hst.symm.trans h))).trans rfl)
theorem z_par {i j : Nat} {a b : Xp} {e e' : Expr} {x y : Str} {px py pt p2 : Pos} {kt k2 : Nat} (g : Good Z c cx n) (hk : c.sc.kind = .function) (hij : i ≠ j) (hx : c.N[i]? = some x) (hy : c.N[j]? = some y) (hp : parB c x y px py e e' = true) (ha : PEz Z n cx W a e) (hb : PEz Z n cx W b e') :
    PSz Z n cx W (.par i j a b) (.Assign [.Tuple [.Name x px, .Name y py] kt pt] (.Tuple [e, e'] k2 p2) pos) := by
  unfold parB at hp
  simp only [Bool.and_eq_true, Bool.not_eq_true', beq_iff_eq] at hp
  obtain ⟨⟨⟨⟨⟨⟨⟨h1, h2⟩, h3⟩, h4⟩, h5⟩, h6⟩, h7⟩, h8⟩ := hp
  have l1 : cx.env.scope.names.lookup x = some .local := by
    rw [g.sc]
    split at h1
    · assumption
    · cases h1
  have l2 : cx.env.scope.names.lookup y = some .local := by
    rw [g.sc]
    split at h2
    · assumption
    · cases h2
  have hpa : PA cx [e, e'] (tA Z.toGy W (rnA Z n (.cons a (.cons b .nil)))) := z_consA h7 ha (z_consA h8 hb z_nilA)
  refine (ps_par (kt := kt) (pt := pt) (k2 := k2) (pt2 := p2) (px := px) (py := py) g.calm (by rw [g.N]; exact g.nd) (by rw [g.N]; exact hx) (by rw [g.N]; exact hy) hij l1 l2 hpa
    (par_of (by rw [g.sc]; exact hk) l1 l2 (by simpa using h3) h4 h5 h6 h7 h8) (sw_other rfl)).imp fun D σ H h => ?_
  unfold rnS at h; simp only [runS] at h
  obtain ⟨al, ρ, M, S, E, p⟩ := h
  refine ⟨al, ρ, M, S, E, ?_⟩
  unfold rnA; simp only [runA]
  dsimp only at p
  cases qa : runE Z.P Z.wf (callF Z.P Z.wf n) ρ a M with
  | stuck => rw [qa] at p; exact p.elim
  | err c fs M' => rw [qa] at p; exact fun al' H' cls dd s S' x => p al' H' σ cls dd s S' (E.mono S s) x
  | ok u M1 =>
    rw [qa] at p
    simp only [withE_ok, bind_ok] at p ⊢
    cases qb : runE Z.P Z.wf (callF Z.P Z.wf n) ρ b M1 with
    | stuck => rw [qb] at p; exact p.elim
    | err c fs M' => rw [qb] at p; exact fun al' H' cls dd s S' x => p al' H' σ cls dd s S' (E.mono S s) x
    | ok w M2 =>
      rw [qb] at p
      simp only [withE_ok, bind_ok] at p ⊢
      intro al' H' vs s S' r
      have r : Reps Z.K H' al' M2 [u, w] vs := r
      rw [Reps] at r
      obtain ⟨v1, r1, rfl, k1, r⟩ := r
      rw [Reps] at r
      obtain ⟨v2, r2, rfl, k2, r⟩ := r
      rw [Reps] at r
      subst r
      exact ⟨v1, v2, rfl, p al' H' _ s S' (((E.mono S s).set k1 i).set k2 j)⟩

/-- behind a turn: the loop goes on -/
def NxF (Z : Gz) (W : WX) (D : Ends) (k : Wk) (J : It) (go : Rho → Store → Out) : L2.St → Hp → Prop := fun σ H => ∃ al ρ M, Sto Z.toGx H al M ∧ Envr Z.K H al M σ ρ ∧ rI Z H al M k J ∧ PoS Z.toGy W D H al M (go ρ M)
theorem dr_keys {κ : Type} {kf : κ → G.D} {K : PySem.W.Frag} {H : Hp} {al : Am} {M : Store} : ∀ {ds : List (G.D × G.D)} {xs : List (κ × V)}, Dr kf K H al M ds xs → ds.map (·.1) = xs.map fun p => kf p.1
  | [], xs, h => by rw [Dr] at h; subst h; rfl
  | p :: ds, xs, h => by
    obtain ⟨k, v, r, rfl, e, _, h2⟩ := h
    rw [List.map_cons, List.map_cons, e, dr_keys h2]
/-- the machine's turn of a loop -/
noncomputable def foF (Z : Gz) (n : Nat) (gp : Gp) (b : Sms) (x : G.D) (ρ : Rho) (M : Store) : Out := match bindG gp x ρ with
  | some ρ' => runSs Z.P Z.wf (callF Z.P Z.wf n) b ρ' M
  | none => none
theorem fo_turn {gp : Gp} {b : Sms} {D : Ends} {J : It} {al : Am} {ρ : Rho} {M : Store} {σ : L2.St} {H : Hp} {x : V} {d : G.D} {go : Rho → Store → Out} {k : Wk} (S : Sto Z.toGx H al M) (E : Envr Z.K H al M σ ρ) (rk : rI Z H al M k J) (rx : Rep Z.K H al M d x) (p : PoS Z.toGy W D H al M (turn (foF Z n gp b d ρ M) go)) :
      tGp Z gp x σ H fun σ2 H2 => tS Z.toGy W (rnSs Z n b) { D with nx := NxF Z W D k J go, ct := NxF Z W D k J go, bk := D.nx } σ2 H2 := by
  unfold foF at p
  split at p
  · rename_i ρ' eb
    refine ⟨al, ρ, M, d, ρ', S, E, rx, eb, fun σ' E' _ => ⟨al, ρ', M, S, E', ?_⟩⟩
    show PoS _ _ _ _ _ _ (runSs Z.P Z.wf (callF Z.P Z.wf n) b ρ' M)
    revert p
    match runSs Z.P Z.wf (callF Z.P Z.wf n) b ρ' M with
    | some (.nx ρ2, M2) => exact fun p al2 H2 σ2 s2 S2 E2 => ⟨al2, ρ2, M2, S2, E2, rk.mono S s2, PoS.step p s2⟩
    | some (.ct ρ2, M2) => exact fun p al2 H2 σ2 s2 S2 E2 => ⟨al2, ρ2, M2, S2, E2, rk.mono S s2, PoS.step p s2⟩
    | some (.bk ρ2, M2) => exact fun p al2 H2 σ2 s2 S2 E2 => p al2 H2 σ2 s2 S2 E2
    | some (.rt d, M2) => exact fun p => p
    | some (.er c fs ρ2, M2) => exact fun p => p
    | none => exact fun p => p.elim
  · exact p.elim
theorem fo_items {gp : Gp} {b : Sms} {D : Ends} {J : It} {F : G.D → Rho → Store → Out} {xs : List G.D} {al : Am} {ρ : Rho} {M : Store} {σ : L2.St} {H : Hp} (hF : F = foF Z n gp b) (S : Sto Z.toGx H al M) (E : Envr Z.K H al M σ ρ) (rk : rI Z H al M (.items xs) J) (p : PoS Z.toGy W D H al M (forL F xs ρ M)) :
    ∃ I : Nat → Nat → L2.St → Hp → Prop, (∃ m, I 0 m σ H) ∧ ∀ i m σ H, I i m σ H →
      (J.stop i H ∧ D.nx σ H) ∨ (J.go i H ∧ ∃ N : L2.St → Hp → Prop, (∀ σ' H', N σ' H' → ∃ m', m' < m ∧ I (i + 1) m' σ' H') ∧ ∀ x H', J.yld i H x H' → tGp Z gp x σ H' fun σ2 H2 => tS Z.toGy W (rnSs Z n b) { D with nx := N, ct := N, bk := D.nx } σ2 H2) := by
  refine ⟨fun i m σ H => ∃ al ρ M, Sto Z.toGx H al M ∧ Envr Z.K H al M σ ρ ∧ rI Z H al M (.items xs) J ∧ m = xs.length - i ∧ PoS Z.toGy W D H al M (forL F (xs.drop i) ρ M), ⟨xs.length, al, ρ, M, S, E, rk, rfl, by rw [List.drop_zero]; exact p⟩, ?_⟩
  rintro i m σ H ⟨al, ρ, M, S, E, rk, rfl, p⟩
  by_cases hlt : i < xs.length
  · rw [List.drop_eq_getElem_cons hlt, forL] at p
    obtain ⟨h1, h2⟩ := rI_go S rk (i := i) (d := xs[i]) (by simp [hlt])
    refine .inr ⟨h1, NxF Z W D (.items xs) J (fun ρ' M' => forL F (xs.drop (i + 1)) ρ' M'), ?_, fun x H' y => ?_⟩
    rotate_left
    · obtain ⟨rfl, rx⟩ := h2 x H' y
      subst hF
      exact fo_turn S E rk rx p
    · rintro σ' H' ⟨al', ρ', M', S', E', rk', p'⟩
      exact ⟨xs.length - (i + 1), by omega, al', ρ', M', S', E', rk', rfl, p'⟩
  · have hd : xs.drop i = [] := List.drop_eq_nil_of_le (Nat.le_of_not_lt hlt)
    rw [hd, forL] at p
    exact .inl ⟨rI_stop S rk (Nat.le_of_not_lt hlt), p.nxt S E⟩
theorem z_fo {gp : Gp} {it : Ip} {b : Sms} {tg iter : Expr} {body : List Stmt} (g : Good Z c cx n) (hp : PassesOwn (model cx.prog cx.w) cx.A cx.env cx.xe) (hi : PI cx tg iter (tI Z W (rnI Z n it))) (hg : PG cx tg (tGp Z gp)) (hb : PSsz Z n cx W b body)
    (hs : ∀ x, foldedSetIterable iter cx.env x = pure x) : PSz Z n cx W (.fo gp it b) (.For tg iter body [] pos) := (ps_for hp g.calm hi hg hb hs).imp fun D σ H h => by
  unfold rnS at h; simp only [runS] at h
  refine (tS_ex (R := rI Z) (f := rnI Z n it) h).mono ?_
  rintro J H1 ⟨al, ρ, M, k, S, E, rk, p⟩
  cases k with
  | items xs => exact fo_items rfl S E rk p
  | hot a =>
    refine ⟨fun i m σ H => ∃ al ρ M, Sto Z.toGx H al M ∧ Envr Z.K H al M σ ρ ∧ rI Z H al M (.hot a) J ∧ PoS Z.toGy W D H al M (forH a (foF Z n gp b) m i ρ M), ⟨Z.wf, al, ρ, M, S, E, rk, p⟩, ?_⟩
    rintro i m σ H ⟨al, ρ, M, S, E, rk, p⟩
    cases m with
    | zero => exact p.elim
    | succ m =>
      rw [forH] at p
      split at p
      · rename_i xs e1
        obtain ⟨h0, h00⟩ := rI_hot S rk e1
        split at p
        · rename_i e2
          exact .inl ⟨h0 i (List.getElem?_eq_none_iff.mp e2), p.nxt S E⟩
        · rename_i d e2
          obtain ⟨h1, h2⟩ := h00 i d e2
          refine .inr ⟨h1, NxF Z W D (.hot a) J (fun ρ' M' => forH a (foF Z n gp b) m (i + 1) ρ' M'), ?_, fun x H' y => ?_⟩
          rotate_left
          · obtain ⟨rfl, rx⟩ := h2 x H' y
            exact fo_turn S E rk rx p
          · rintro σ' H' ⟨al', ρ', M', S', E', rk', p'⟩
            exact ⟨m, Nat.lt_succ_self m, al', ρ', M', S', E', rk', p'⟩
      · exact p.elim
theorem z_fod {gp : Gp} {i : Nat} {b : Sms} {tg iter : Expr} {body : List Stmt} (g : Good Z c cx n) (hp : PassesOwn (model cx.prog cx.w) cx.A cx.env cx.xe) (hv : PEz Z n cx W (.v i) iter) (hg : PG cx tg (tGp Z gp)) (hb : PSsz Z n cx W b body)
    (hs : ∀ x, foldedSetIterable iter cx.env x = pure x) : PSz Z n cx W (.fod gp i b) (.For tg iter body [] pos) := (ps_lock (ps_for hp g.calm (pi_keys hv) hg hb hs)).imp fun D σ H h => by
  unfold rnS at h; simp only [runS] at h
  obtain ⟨al, ρ, M, S, E, p⟩ := h
  dsimp only at p
  split at p
  · rename_i m e1
    split at p
    · rename_i tk kvs e2
      obtain ⟨v, ev, rv⟩ := E.at_ i _ e1
      have rv' := rv
      rw [Rep] at rv
      obtain ⟨d, rfl, ha⟩ := rv
      obtain ⟨u, hH, hD⟩ := S.at_ m _ d e2 ha
      have hl : live M m := ⟨_, e2, rfl⟩
      refine ⟨d, u, hH, (by rcases hD.isd with ⟨xs, rfl⟩ | ⟨xs, rfl⟩ <;> trivial), fun od => ?_⟩
      have p1 := PoS.unl (od := od) (tk' := tk) (kv' := kvs) S hl ha hD.isd p
      have s1 : Stp H al M (upd H d (.frz od u)) al (M.set m (.fdic tk kvs)) := Stp.chg S hl ha
      have S1 : Sto Z.toGx (upd H d (.frz od u)) al (M.set m (.fdic tk kvs)) := S.chg hl ha ⟨od, u, upd_same, hD.mono S s1⟩
      have E1 := E.mono S s1
      refine ⟨al, ρ, _, S1, E1, ?_⟩
      show Po Z.toGy _ _ _ _ _ _ _ (runE Z.P Z.wf (callF Z.P Z.wf n) ρ (.v i) (M.set m (.fdic tk kvs)))
      simp only [runE, e1]
      intro al' H' v s2 S2 r
      have r' : Rep Z.K H' al' (M.set m (.fdic tk kvs)) (.ptr m) v := r
      rw [Rep] at r'
      obtain ⟨d', rfl, ha'⟩ := r'
      have hd : d' = d := by
        have := s2.get ha
        rw [ha'] at this
        exact Option.some.inj this
      subst hd
      have hz : H' d' = some (.frz od u) := s2.keep d' _ upd_same (lock_cold S hl ha)
      have E2 := E1.mono S1 s2
      have p2 := PoS.step p1 s2
      cases tk with
      | false =>
        obtain ⟨xs, rfl, hr⟩ := hD
        refine ⟨d', od, rfl, .inl ⟨xs, hz, ?_⟩⟩
        have rk : rI Z H' al' (M.set m (.fdic false kvs)) (.items (kvs.map (·.1))) (Itk d' od xs) := .inr (.inr (.inr (.inl ⟨d', od, xs, rfl, hz, dr_keys hr⟩)))
        exact fo_items rfl S2 E2 rk p2
      | true =>
        obtain ⟨xs, rfl, hr⟩ := hD
        refine ⟨d', od, rfl, .inr ⟨xs, hz, ?_⟩⟩
        have rk : rI Z H' al' (M.set m (.fdic true kvs)) (.items (kvs.map (·.1))) (Itkt d' od xs) := .inr (.inr (.inr (.inr ⟨d', od, xs, rfl, hz, dr_keys hr⟩)))
        exact fo_items rfl S2 E2 rk p2
    · exact p.elim
  · exact p.elim
theorem z_whl {t : Tp} {b : Sms} {q : Expr} {body : List Stmt} (hp : PassesOwn (model cx.prog cx.w) cx.A cx.env cx.xe) (ht : PTz Z n cx W t q) (hb : PSsz Z n cx W b body) : PSz Z n cx W (.whl t b) (.While q body [] pos) := (ps_while hp ht hb).imp fun D σ H h => by
  unfold rnS at h; simp only [runS] at h
  obtain ⟨al, ρ, M, S, E, p⟩ := h
  refine ⟨fun m σ H => ∃ al ρ M, Sto Z.toGx H al M ∧ Envr Z.K H al M σ ρ ∧ PoS Z.toGy W D H al M (whileL (fun ρ M => runT Z.P Z.wf (callF Z.P Z.wf n) ρ t M) (fun ρ M => runSs Z.P Z.wf (callF Z.P Z.wf n) b ρ M) m ρ M), ⟨Z.wf, al, ρ, M, S, E, p⟩, ?_⟩
  rintro m σ H ⟨al, ρ, M, S, E, p⟩
  cases m with
  | zero => exact p.elim
  | succ m =>
    rw [whileL] at p
    refine ⟨al, ρ, M, S, E, (PoS.ex (R := rId) S E p).mono ?_⟩
    rintro k H1 ⟨al1, M1, k', s1, S1, E1, e, p1⟩
    cases e
    cases k with
    | false => exact (if_neg (by simp)).mpr (p1.nxt S1 E1)
    | true =>
      refine (if_pos rfl).mpr ⟨fun σ H => ∃ al ρ M, Sto Z.toGx H al M ∧ Envr Z.K H al M σ ρ ∧ PoS Z.toGy W D H al M (whileL (fun ρ M => runT Z.P Z.wf (callF Z.P Z.wf n) ρ t M) (fun ρ M => runSs Z.P Z.wf (callF Z.P Z.wf n) b ρ M) m ρ M), fun σ' H' q => ⟨m, Nat.lt_succ_self m, q⟩, al1, ρ, M1, S1, E1, ?_⟩
      show PoS _ _ _ _ _ _ (runSs Z.P Z.wf (callF Z.P Z.wf n) b ρ M1)
      dsimp only at p1
      revert p1
      match runSs Z.P Z.wf (callF Z.P Z.wf n) b ρ M1 with
      | some (.nx ρ2, M2) => exact fun p al2 H2 σ2 s2 S2 E2 => ⟨al2, ρ2, M2, S2, E2, PoS.step p s2⟩
      | some (.ct ρ2, M2) => exact fun p al2 H2 σ2 s2 S2 E2 => ⟨al2, ρ2, M2, S2, E2, PoS.step p s2⟩
      | some (.bk ρ2, M2) => exact fun p al2 H2 σ2 s2 S2 E2 => p al2 H2 σ2 s2 S2 E2
      | some (.rt d, M2) => exact fun p => p
      | some (.er c fs ρ2, M2) => exact fun p => p
      | none => exact fun p => p.elim
end
end G

/-! GExc -/
set_option maxRecDepth 100000
set_option maxHeartbeats 4000000
namespace G
open PySem PySem.Spec PyProof.Rows L2
section
variable {K : PySem.W.Frag} {H : Hp} {al : Am} {M : Store}
theorem Reps.reverse : ∀ {ds : List G.D} {vs : List V}, Reps K H al M ds vs → Reps K H al M ds.reverse vs.reverse
  | [], vs, h => by rw [Reps] at h; subst h; exact Reps.nil
  | d :: ds, vs, h => by
    rw [Reps] at h
    obtain ⟨v, r, e, h1, h2⟩ := h
    subst e
    rw [List.reverse_cons, List.reverse_cons]
    exact (Reps.reverse h2).append (.cons h1 .nil)
theorem Fsr_zip {nm : Nat → Str} : ∀ {fl : List Nat} {ds : List G.D} {vs : List V}, Reps K H al M ds vs → Fsr nm K H al M (fl.zip ds) ((fl.map nm).zip vs)
  | [], ds, vs, h => by rfl
  | f :: fl, [], vs, h => by rw [Reps] at h; subst h; rfl
  | f :: fl, d :: ds, vs, h => by
    rw [Reps] at h
    obtain ⟨v, r, e, h1, h2⟩ := h
    subst e
    exact ⟨v, (fl.map nm).zip r, rfl, h1, Fsr_zip h2⟩
end
section
variable {Z : Gz} {n : Nat} {cx : Cx} {c : Ck} {W : WX} {pos : Pos}
theorem exc_heap {H : Hp} {a d : Addr} {C : Addr} {fs : List (Str × V)} (ha : H a = none) (hd : H d = none) (hda : d ≠ a) :
    upd (del (upd (upd (upd H a (exo a C none)) d (exd d fs)) a (exo a C (some d))) a) d (.xd fs) = upd H d (.xd fs) := by
  funext b
  by_cases h1 : b = d
  · subst h1; rw [upd_same, upd_same]
  · rw [upd_ne h1, upd_ne h1]
    by_cases h2 : b = a
    · subst h2; rw [del_same, ha]
    · rw [del_ne h2, upd_ne h2, upd_ne h1, upd_ne h2]
theorem z_rais {k : Nat} {e : Er} {as : Xps} {x : Str} {p p2 : Pos} {a : Expr} {es : List Expr} (g : Good Z c cx n) (tk : Takes cx W) (hk : Z.P.ers[k]? = some e) (hx : e.name = x) (hc : c.glb x = true) (hst : (a :: es).all noStar = true) (ha : PAz Z n cx W as (a :: es)) :
    PSz Z n cx W (.rais k as) (.Raise (some (.Call (.Name x p) (a :: es) [] p2)) none pos) := by
  have eg := g.lnk.ers k e hk
  obtain ⟨T, fI, fd, ps, iC, tI, F, hb⟩ := eg.ex
  obtain ⟨hg, hdb⟩ := g.gl hc
  have hm := g.lnk.erm k e hk
  rw [hx] at hm
  rw [List.all_cons, Bool.and_eq_true] at hst
  have pm := pmk_oex (pos := p2) (p := p) (dvs := []) T iC tI F g.room hb .nil passL hg hm ha hdb (starEach_cons hst.1) (star_plain hst.2)
  refine (ps_raise (pos := pos) g.calm tk pm).imp fun D σ H h => ?_
  unfold rnS at h; simp only [runS] at h
  obtain ⟨al, ρ, M, S, E, q⟩ := h
  refine ⟨al, ρ, M, S, E, (PoS.ex (R := rA Z.toGy) S E q).mono ?_⟩
  rintro vs H1 ⟨al1, M1, ds, s1, S1, E1, r1, q1⟩
  have r1 : Reps Z.K H1 al1 M1 ds vs := r1
  rw [hk] at q1
  dsimp only at q1
  split at q1
  · rename_i hl
    have hvl : vs.length = e.flds.length := by rw [r1.length]; exact hl
    refine ⟨by rw [hvl]; have := eg.few; omega, fun a0 ha0 => ?_⟩
    rw [List.append_nil]
    refine ⟨a0, vs, rfl, hvl, upd_same, fun d hd hda => ⟨rfl, d, _, upd_same, by rw [upd_ne hda, upd_same], ?_, ?_⟩⟩
    · rw [upd_ne hda] at hd; exact hd
    · rw [upd_ne hda] at hd
      rw [exc_heap ha0 hd hda]
      have st : Stp H1 al1 M1 (upd H1 d (.xd ((e.flds.map Z.nm).zip vs.reverse))) al1 M1 := Stp.cold S1 hd
      exact q1 al1 _ σ _ _ st (S1.cold hd) (E1.mono S1 st) ⟨e, d, _, hk, rfl, rfl, upd_same, by rw [List.length_reverse]; exact hl, Fsr.mono S1 st _ _ (Fsr_zip r1.reverse)⟩
  · exact q1.elim
end
end G

/-! GTry -/
set_option maxRecDepth 100000
set_option maxHeartbeats 4000000
namespace L2
open PySem PySem.Spec PyProof.Rows
/-- the clauses' wishes, one after the other; each has a slot for its name -/
def wNm (K : PySem.W.Frag) (Wo : WX) (D : Ends) : List (Value × Nat × (Addr → Value → Option Addr → TE)) → WX
  | [] => Wo
  | (c, i, ts) :: r => fun cls d σ H => ∃ b, PySem.W.exmOne K cls c = some b ∧ (b = true → ∀ a, H a = none → ts a cls d (σ.set i (some (.ref a))) H D.rt) ∧ (b = false → wNm K Wo D r cls d σ H)
inductive HdN (Y : Cx) : List ExceptHandler → List (Value × Nat × (Addr → Value → Option Addr → TE)) → Prop
  | nil : HdN Y [] []
  | cons {x nm : Str} {i : Nat} {c : Value} {ts : Addr → Value → Option Addr → TE} {e : Expr} {np pr ph : Pos} {hds : List ExceptHandler} {l : List (Value × Nat × (Addr → Value → Option Addr → TE))} (hc : Names Y x c) (hi : Y.N[i]? = some nm) (hl : Y.env.kindOf nm = some .local)
      (he : ∀ (a : Addr) (oe : Obj) (cls : Value) (d : Option Addr) (pn : List (Addr × Obj)), Zc cls d oe → (∃ vs, oe.data = .fields vs) → PE (Y.suite a ((a, oe) :: pn)) e (ts a cls d)) (r : HdN Y hds l) :
      HdN Y (.ExceptHandler (some (.Name x np)) (some nm) [.Return (some e) pr] ph :: hds) ((c, i, ts) :: l)
section
variable {Y : Cx} {body : List Stmt} {hd : ExceptHandler} {hds : List ExceptHandler} {l : List (Value × Nat × (Addr → Value → Option Addr → TE))} {pos : Pos} {tb : WX → TS} {Wo : WX}
theorem ps_try_named (hs : Y.stack = Y.env :: Y.outer) (hf : Y.env.frame = some Y.env.locals) (hN : Y.N.Nodup) (tk : Takes Y Wo)
    (hb : ∀ (W : WX) (pn : List (Addr × Obj)) (xe : Value → Shared → Prop), Takes (Y.tr pn xe) W → PassesOwn (model Y.prog Y.w) Y.A Y.env xe → PSs (Y.tr pn xe) body (tb W))
    (hh : HdN Y (hd :: hds) l) : PS Y (.Try body (hd :: hds) [] [] pos) (fun D σ H => tb (wNm Y.K Wo D l) D σ H) := by
  refine ⟨fun pins s σ H D I0 h => ?_⟩
  have ok := I0.ok
  refine wpAny_Try_except ?_
  refine wpAny_mono ((hb (wNm Y.K Wo D l) (Y.pn ++ pins) (fun e s1 => wpAny (model Y.prog Y.w) Y.A (noteFrame e Y.env) (fun _ s2 => wpAny (model Y.prog Y.w) Y.A (setFlight e none) (fun _ s3 =>
    wpAny (model Y.prog Y.w) Y.A (handleBy e Y.env (hd :: hds)) (SP Y pins D) Y.xe s3) Y.xe s2) Y.xe s1) (fun u s' xx => ?_) PassesOwn.looking).run [] s σ H D (I0.toTry _) h) (fun f s1 hsp => ?_) (fun e s1 he => he)
  · obtain ⟨a, B, sI, pins', σ', H', cls, d, rfl, Jt, nb, up, sky, na, os, ag, w⟩ := xx
    have J0 : Inv Y pins σ' H' sI := Jt.ofTry ok
    have sk : Sky B (Y.env :: Y.outer) a (Zc cls d) Y.env.locals s'.heap := by rw [← hs]; exact sky
    have hfr : Y.A.frames = some (Y.env :: Y.outer) := by rw [ok.frames, hs]
    show wpAny (model Y.prog Y.w) Y.A (noteFrame (.ref a) Y.env) _ _ _
    refine Sky.land Zc.steady hfr hf sk fun h3 fl3 up3 => ?_
    have J3 : Inv Y pins σ' H' { s' with heap := h3 } := J0.landed nb fl3.1 (up.trans up3) os ag
    obtain ⟨oe3, vs3, he3, hz3, hd3⟩ := fl3.there
    have off : ∀ {h : Heap} {o : Obj} {vs : Array Value}, h.FunFrames B (Y.env :: Y.outer) → h.get? a = some o → o.data = .fields vs → a ∉ frs (Y.env :: Y.outer) := fun {h o vs} ff e dd hm => by
      obtain ⟨_, o2, e2, hnf⟩ := ff.mem hm
      rw [e] at e2; cases e2
      exact hnf _ dd
    have nfr := off fl3.2.2.1 he3 hd3
    have nL : a ≠ Y.env.locals := fun z => nfr (List.mem_filterMap.mpr ⟨Y.env, List.mem_cons_self, by rw [hf, z]⟩)
    have nF : a ∉ Y.fs := fun hm => by
      obtain ⟨e, he, q⟩ := List.mem_filterMap.mp hm
      exact nfr (List.mem_filterMap.mpr ⟨e, List.mem_cons_of_mem _ he, q⟩)
    have S3 := J3.suite he3 hd3 na nL nF
    have go : ∀ {hq : List ExceptHandler} {lq : List (Value × Nat × (Addr → Value → Option Addr → TE))}, HdN Y hq lq → wNm Y.K Wo D lq cls d σ' H' →
        wpAny (model Y.prog Y.w) Y.A (handleBy (.ref a) Y.env hq) (SP Y pins D) Y.xe { s' with heap := h3 } := by
      intro hq lq hk
      induction hk with
      | nil =>
        intro w
        refine wpAny_handleBy_nil ?_
        obtain ⟨k1, k2, k3, oe, vs, T, oT, ts', he, hz, hdt, h1, hr⟩ := id fl3
        unfold PySem.passOn
        refine wpAny_bind (wpAny_field he hdt h1 ?_)
        rw [if_neg (show ¬ ((Value.ref T == Value.none) = true) by simp)]
        have fin : wpAny (model Y.prog Y.w) Y.A (setFlight (.ref a) Y.env.frame) (fun _ s4 => wpAny (model Y.prog Y.w) Y.A (throw (.ref a) : Sem Flow) (SP Y pins D) Y.xe s4) Y.xe { s' with heap := h3 } := by
          rw [hf]
          refine HandSPX.setFlight_upZ fl3 fun h4 hh4 up4 => wpAny_throw (tk _ _ ?_)
          exact ⟨a, B, sI, pins, σ', H', cls, d, rfl, J0, nb, (up.trans up3).trans up4, .inr (.inr (by rw [hs]; exact hh4)), na, os, ag, w⟩
        first
          | exact wpAny_bind (wpAny_pure (wpAny_bind fin))
          | exact wpAny_bind fin
      | @cons x nm i c ts e np pr ph hds2 l2 hc hi hln he r ih =>
        intro w
        obtain ⟨b, hb1, hyes, hno⟩ := w
        refine wpAny_handleBy_cons (codeAny_handlers_test ?_) (by intro q; cases q)
        have LT : PySem.W.Looks (model Y.prog Y.w) h3 (typeOf (.ref a)) cls := fun A Q E s k q => wpAny_typeOf_ref (k _ _ he3) (by rw [hz3.1]; exact q)
        have LM := PySem.W.exm_one (M := model Y.prog Y.w) (J3.kIn) LT hb1
        have test : ∀ {Q : Value → Shared → Prop} {E : Value → Shared → Prop}, Q c { s' with heap := h3 } → wpAny (model Y.prog Y.w) (Y.A.mark (some (.ref a))) (eval (.Name x np) Y.env) Q E { s' with heap := h3 } := fun {Q E} q => by
          obtain ⟨hg, hdbg, hm | ⟨hm, hv, hnn⟩⟩ := hc
          · exact ld_glob (X := Y.suite a ((a, oe3) :: (Y.pn ++ pins))) S3 hg hm q hdbg
          · exact ld_blt (X := Y.suite a ((a, oe3) :: (Y.pn ++ pins))) S3 hg hm hv q hnn hdbg
        refine test (LM.here ?_)
        cases b with
        | false =>
          show wpAny _ Y.A (handleBy (.ref a) Y.env hds2) _ _ _
          exact ih (hno rfl)
        | true =>
          refine codeAny_handlers_suite_as ?_
          refine HandSPX.lands_againZ fl3 fun h4 fl4 up4 => ?_
          have J4 : Inv Y pins σ' H' { s' with heap := h4 } := J0.landed nb fl4.1 ((up.trans up3).trans up4) os ag
          obtain ⟨oe4, vs4, he4, hz4, hd4⟩ := fl4.there
          have S4 := J4.suite he4 hd4 na nL nF
          refine store_ok (X := Y.suite a ((a, oe4) :: (Y.pn ++ pins))) (v := .ref a) S4 hN hi (.inl hln) rfl (fun s5 S5 => ?_) (.inr hln)
          have hps : PSs (Y.suite a ((a, oe4) :: (Y.pn ++ pins))) [.Return (some e) pr] (tSeq (tRet (ts a cls d)) tNext) := pss_cons (ps_ret (he a oe4 cls d (Y.pn ++ pins) hz4 ⟨_, hd4⟩)) pss_nil
          refine wpAny_mono (hps.run [] s5 _ H' { nx := fun _ _ => False, rt := D.rt } S5 (hyes rfl a na)) (fun f s6 hsp => ?_) (fun _ _ z => False.elim z)
          cases f with
          | next => obtain ⟨_, _, _, z⟩ := hsp; exact z.elim
          | brk => obtain ⟨_, _, _, z⟩ := hsp; exact z.elim
          | cont => obtain ⟨_, _, _, z⟩ := hsp; exact z.elim
          | ret u =>
            obtain ⟨v6, σ6, H6, S6, r6, q6⟩ := hsp
            exact gone_ok (S6.unsuite ok) hN hi hln fun s7 J7 => ⟨_, _, _, J7, r6, q6⟩
    exact go hh w
  · cases f with
    | next =>
      obtain ⟨σ', H', J1, q⟩ := hsp
      exact wpAny_execs_nil ⟨σ', H', J1.ofTry ok, q⟩
    | brk =>
      obtain ⟨σ', H', J1, q⟩ := hsp
      exact ⟨σ', H', J1.ofTry ok, q⟩
    | cont =>
      obtain ⟨σ', H', J1, q⟩ := hsp
      exact ⟨σ', H', J1.ofTry ok, q⟩
    | ret u =>
      obtain ⟨v, σ', H', J1, r, q⟩ := hsp
      exact ⟨v, σ', H', J1.ofTry ok, r, q⟩
end
end L2
namespace G
open PySem PySem.Spec PyProof.Rows L2
theorem Envr.unset {K : PySem.W.Frag} {H : Hp} {al : Am} {M : Store} {σ : L2.St} {ρ : Rho} {x : Option V} (E : Envr K H al M σ ρ) (i : Nat) : Envr K H al M (σ.set i x) (ρ.set i none) := by
  refine ⟨by simp [E.len], fun j d e => ?_⟩
  by_cases hj : i = j
  · subst hj
    by_cases hl : i < ρ.length
    · rw [List.getElem?_set_self hl] at e; cases e
    · rw [List.getElem?_eq_none (by simpa using hl)] at e; cases e
  · rw [List.getElem?_set_ne hj] at e
    rw [List.getElem?_set_ne hj]
    exact E.at_ j d e
section
variable {Z : Gz} {n : Nat} {cx : Cx} {c : Ck} {W : WX} {pos : Pos}
/-- a handler's value: c, fs the exception's class and fields -/
def tH (Z : Gz) (i : Nat) (a : Addr) (cls : Value) (d : Option Addr) (f : Rho → List Nat → List G.D → Option G.D) : TE := fun σ H Q => ∃ al ρ M k fs e dv, Sto Z.toGx H al M ∧ Envr Z.K H al M σ ρ ∧ σ[i]? = some (some (.ref a)) ∧ Exr Z.toGy H al M k fs cls d ∧ Z.P.ers[k]? = some e ∧
  f ρ e.flds fs = some dv ∧ ∀ al' H' v, Stp H al M H' al' M → Sto Z.toGx H' al' M → Rep Z.K H' al' M dv v → Q v H'
def tHs (Z : Gz) (i : Nat) (a : Addr) (cls : Value) (d : Option Addr) (f : Rho → List Nat → List G.D → Option (List G.D)) : TA := fun σ H Q => ∃ al ρ M k fs e dv, Sto Z.toGx H al M ∧ Envr Z.K H al M σ ρ ∧ σ[i]? = some (some (.ref a)) ∧ Exr Z.toGy H al M k fs cls d ∧ Z.P.ers[k]? = some e ∧
  f ρ e.flds fs = some dv ∧ ∀ al' H' v, Stp H al M H' al' M → Sto Z.toGx H' al' M → Reps Z.K H' al' M dv v → Q v H'
mutual
/-- does a handler's value stand for a piece of syntax; i: the name's slot -/
def chkH (c : Ck) (i : Nat) : Hx → Expr → Bool
  | .non, e => match e with | .Constant .none _ _ => true | _ => false
  | .bl b, e => match e with | .Constant (.bool b') _ _ => b == b' | _ => false
  | .int i, e => match e with | .Constant (.int j) _ _ => decide (i = j) | _ => false
  | .str x, e => match e with | .Constant (.str y) _ _ => decide (x = y) | _ => false
  | .v j, e => match e with | .Name x _ => c.var j x | _ => false
  | .fld f, e => match e with | .Attribute (.Name x _) y _ => c.var i x && c.nmd f y | _ => false
  | .tup as, e => match e with | .Tuple es _ _ => chkHs c i as es | _ => false
def chkHs (c : Ck) (i : Nat) : Hxs → List Expr → Bool
  | .nil, es => match es with | [] => true | _ => false
  | .cons a r, es => match es with | e :: es => noStar e && chkH c i a e && chkHs c i r es | _ => false
end
theorem tH_c {v : V} {d0 : G.D} {i : Nat} {a : Addr} {cls : Value} {d : Option Addr} {f : Rho → List Nat → List G.D → Option G.D} {Y : Cx} {e : Expr} (h : PE Y e (tC v)) (hr : ∀ H al M, Rep Z.K H al M d0 v) (hf : ∀ ρ fl fs, f ρ fl fs = some d0) : PE Y e (tH Z i a cls d f) := h.imp fun σ H Q hh => by
  obtain ⟨al, ρ, M, k, fs, er, dv, S, E, ea, x, hk, e1, q⟩ := hh
  rw [hf] at e1; cases e1
  exact q al H v Stp.refl S (hr H al M)
theorem Exr.mono {H H' : Hp} {al al' : Am} {M M' : Store} {k : Nat} {fs : List G.D} {cls : Value} {d : Option Addr} (S : Sto Z.toGx H al M) (s : Stp H al M H' al' M') (h : Exr Z.toGy H al M k fs cls d) : Exr Z.toGy H' al' M' k fs cls d := by
  obtain ⟨e, dd, vfs, h1, h2, h3, h4, h5, h6⟩ := h
  refine ⟨e, dd, vfs, h1, h2, h3, s.keep dd _ h4 ?_, h5, Fsr.mono S s _ _ h6⟩
  intro hh
  rcases S.hot hh with ⟨_, q⟩ | ⟨_, _, _, q⟩ | ⟨_, q⟩ | ⟨_, q⟩ <;> rw [h4] at q <;> cases q
mutual
theorem sndH (g : Good Z c cx n) (i : Nat) (a : Addr) (oe : Obj) (cls : Value) (d : Option Addr) (pn : List (Addr × Obj)) (hz : Zc cls d oe) (hf : ∃ vs, oe.data = .fields vs) : ∀ (h : Hx) (e : Expr), chkH c i h e = true →
    PE (cx.suite a ((a, oe) :: pn)) e (tH Z i a cls d fun ρ fl fs => runH ρ fl fs h)
  | .non, e, h => by
    unfold chkH at h; split at h
    · exact tH_c pe_non (fun _ _ _ => by rw [Rep]) fun _ _ _ => rfl
    · cases h
  | .bl b, e, h => by
    unfold chkH at h; split at h
    · rw [beq_iff_eq] at h; subst h
      exact tH_c pe_bl (fun _ _ _ => by rw [Rep]) fun _ _ _ => rfl
    · cases h
  | .int i, e, h => by
    unfold chkH at h; split at h
    · rw [decide_eq_true_eq] at h; subst h
      exact tH_c pe_int (fun _ _ _ => by rw [Rep]) fun _ _ _ => rfl
    · cases h
  | .str x, e, h => by
    unfold chkH at h; split at h
    · rw [decide_eq_true_eq] at h; subst h
      exact tH_c pe_str (fun _ _ _ => by rw [Rep]) fun _ _ _ => rfl
    · cases h
  | .v j, e, h => by
    unfold chkH at h; split at h
    · unfold Ck.var at h
      simp only [Bool.and_eq_true, decide_eq_true_eq, Bool.not_eq_true'] at h
      obtain ⟨⟨⟨h1, h2⟩, h3⟩, h4⟩ := h
      refine (pe_var (X := cx.suite a ((a, oe) :: pn)) (by show cx.N[j]? = _; rw [g.N]; exact h1) (g.vis h2) h3 h4).imp fun σ H Q hh => ?_
      obtain ⟨al, ρ, M, k, fs, er, dv, S, E, ea, x, hk, e1, q⟩ := hh
      simp only [runH] at e1
      split at e1
      · rename_i d' e2
        cases e1
        obtain ⟨v, e3, r⟩ := E.at_ j _ e2
        exact ⟨v, e3, q al H v Stp.refl S r⟩
      · cases e1
    · cases h
  | .fld f, e, h => by
    unfold chkH at h; split at h
    · rw [Bool.and_eq_true] at h
      obtain ⟨rfl, hml⟩ := Ck.nmd_of g.P h.2
      have hv := h.1
      unfold Ck.var at hv
      simp only [Bool.and_eq_true, decide_eq_true_eq, Bool.not_eq_true'] at hv
      obtain ⟨⟨⟨h1, h2⟩, h3⟩, h4⟩ := hv
      refine ⟨fun pins s σ H Q I hh => ?_⟩
      obtain ⟨al, ρ, M, k, fs, er, dv, S, E, ea, x, hk, e1, q⟩ := hh
      obtain ⟨er', dd, vfs, k1, k2, k3, k4, k5, k6⟩ := id x
      rw [hk] at k1; cases k1
      obtain ⟨X1, X2⟩ := g.lnk.xfc k er hk
      have hfl := (g.lnk.ers k er hk).fl
      have all : ∀ p ∈ er.flds.zip fs, p.1 < Z.P.nms.length := fun p hp => hfl _ (List.of_mem_zip hp).1
      obtain ⟨G1, _⟩ := Fsr.get (X := Z.toGx) g.lnk.nms hml all k6
      have e1 : getF f (er.flds.zip fs) = some dv := e1
      obtain ⟨v, l, rv⟩ := G1 dv e1
      have hin : f ∈ er.flds := by
        have : ∀ {l : List (Nat × G.D)} {d : G.D}, getF f l = some d → ∃ y, (f, y) ∈ l := by
          intro l
          induction l with
          | nil => intro d h; simp [getF] at h
          | cons p l ih =>
            intro d h
            obtain ⟨u, w⟩ := p
            unfold getF at h
            split at h
            · rename_i q; subst q; exact ⟨w, List.mem_cons_self⟩
            · obtain ⟨y, hy⟩ := ih h; exact ⟨y, List.mem_cons_of_mem _ hy⟩
        obtain ⟨y, hy⟩ := this e1
        exact (List.of_mem_zip hy).1
      refine (pe_xf (n := Z.nm f) X1 (X2 f hin) hz hf (pe_var (X := cx.suite a ((a, oe) :: pn)) (i := i) (by show cx.N[i]? = _; rw [g.N]; exact h1) (g.vis h2) h3 h4) (okBase_of rfl)).run pins s σ H Q I ?_
      exact ⟨.ref a, ea, rfl, k2, dd, vfs, v, k3, k4, l, q al H v Stp.refl S rv⟩
    · cases h
  | .tup as, e, h => by
    unfold chkH at h; split at h
    · refine (pe_tup (sndHs g i a oe cls d pn hz hf as _ h)).imp fun σ H Q hh => ?_
      obtain ⟨al, ρ, M, k, fs, er, dv, S, E, ea, x, hk, e1, q⟩ := hh
      simp only [runH] at e1
      cases e2 : runH.runHs ρ er.flds fs as with
      | none => rw [e2] at e1; cases e1
      | some ds =>
        rw [e2, Option.bind_some] at e1
        split at e1
        case isFalse => cases e1
        rename_i hz2
        cases e1
        refine ⟨al, ρ, M, k, fs, er, ds, S, E, ea, x, hk, e2, fun al' H' vs s S' r => ⟨by rw [r.length]; exact hz2, ?_⟩⟩
        intro p hp
        refine q al' _ _ (s.trans (Stp.cold S' hp)) (S'.cold hp) ?_
        rw [Rep]
        exact ⟨p, vs, rfl, upd_same, Reps.mono S' (Stp.cold S' hp) _ _ r⟩
    · cases h
theorem sndHs (g : Good Z c cx n) (i : Nat) (a : Addr) (oe : Obj) (cls : Value) (d : Option Addr) (pn : List (Addr × Obj)) (hz : Zc cls d oe) (hf : ∃ vs, oe.data = .fields vs) : ∀ (h : Hxs) (es : List Expr), chkHs c i h es = true →
    PA (cx.suite a ((a, oe) :: pn)) es (tHs Z i a cls d fun ρ fl fs => runH.runHs ρ fl fs h)
  | .nil, es, h => by
    cases es with
    | cons _ _ => simp [chkHs] at h
    | nil =>
      refine pa_nil.imp fun σ H Q hh => ?_
      obtain ⟨al, ρ, M, k, fs, er, dv, S, E, ea, x, hk, e1, q⟩ := hh
      simp only [runH.runHs, Option.some.injEq] at e1
      subst e1
      exact q al H [] Stp.refl S .nil
  | .cons b r, es, h => by
    cases es with
    | nil => simp [chkHs] at h
    | cons e es =>
      rw [chkHs, Bool.and_eq_true, Bool.and_eq_true] at h
      refine (pa_cons (sndH g i a oe cls d pn hz hf b e h.1.2) (sndHs g i a oe cls d pn hz hf r es h.2) (starEach_cons h.1.1)).imp fun σ H Q hh => ?_
      obtain ⟨al, ρ, M, k, fs, er, dv, S, E, ea, x, hk, e1, q⟩ := hh
      simp only [runH.runHs] at e1
      cases e2 : runH ρ er.flds fs b with
      | none => rw [e2] at e1; cases e1
      | some d1 =>
        rw [e2, Option.bind_some] at e1
        cases e3 : runH.runHs ρ er.flds fs r with
        | none => rw [e3] at e1; cases e1
        | some ds =>
          rw [e3] at e1; cases e1
          refine ⟨al, ρ, M, k, fs, er, d1, S, E, ea, x, hk, e2, fun al1 H1 v s1 S1 r1 => ?_⟩
          refine ⟨al1, ρ, M, k, fs, er, ds, S1, E.mono S s1, ea, x.mono S s1, hk, e3, fun al2 H2 vs s2 S2 r2 => ?_⟩
          exact q al2 H2 _ (s1.trans s2) S2 (.cons (Rep.mono S1 s2 _ _ r1) r2)
end
/-- the clauses of a try -/
def chkHds (c : Ck) : List (Nat × Nat × Hx) → List ExceptHandler → Bool
  | [], [] => true
  | (k, i, h) :: r, .ExceptHandler (some (.Name x _)) (some nm) [.Return (some e) _] _ :: hs => (match c.P.ers[k]? with | some e => decide (e.name = x) | none => false) && c.glb x && decide (c.N[i]? = some nm) &&
      (match c.sc.names.lookup nm with | some .local => true | _ => false) && chkH c i h e && chkHds c r hs
  | _, _ => false
def lHds (Z : Gz) : List (Nat × Nat × Hx) → List (Value × Nat × (Addr → Value → Option Addr → TE))
  | [] => []
  | (k, i, h) :: r => (.ref (Z.ec k), i, fun a cls d => tH Z i a cls d fun ρ fl fs => runH ρ fl fs h) :: lHds Z r
theorem hds_ok (g : Good Z c cx n) : ∀ {l : List (Nat × Nat × Hx)} {hs : List ExceptHandler}, chkHds c l hs = true → HdN cx hs (lHds Z l)
  | [], [], _ => .nil
  | [], _ :: _, h => by cases h
  | _ :: _, [], h => by simp [chkHds] at h
  | (k, i, hx) :: r, hd :: hs, h => by
    unfold chkHds at h
    split at h
    · rename_i h1 _; cases h1
    · rename_i k' i' hx' r' x np nm e pr ph hs' h1 h2
      cases h1; cases h2
      simp only [Bool.and_eq_true, decide_eq_true_eq] at h
      obtain ⟨⟨⟨⟨⟨q1, q2⟩, q3⟩, q4⟩, q5⟩, q6⟩ := h
      split at q1
      · rename_i er ek
        rw [decide_eq_true_eq] at q1
        obtain ⟨hg, hdb⟩ := g.gl q2
        have hm := g.lnk.erm k er (by rw [← g.P]; exact ek)
        rw [q1] at hm
        have hl : cx.env.kindOf nm = some .local := by
          show cx.env.scope.names.lookup nm = _
          rw [g.sc]
          split at q4
          · assumption
          · cases q4
        exact .cons ⟨hg, hdb, .inl hm⟩ (by rw [g.N]; exact q3) hl (fun a oe cls d pn hz hf => sndH g i a oe cls d pn hz hf hx e q5) (hds_ok g q6)
      · cases q1
    · cases h
theorem hds_sem (g : Good Z c cx n) {D : Ends} {H0 : Hp} {al0 : Am} {M0 : Store} {k : Nat} {fs : List G.D} {ρ : Rho} {M : Store} : ∀ {l : List (Nat × Nat × Hx)} {hs : List ExceptHandler}, chkHds c l hs = true → PoS Z.toGy W D H0 al0 M0 (handle Z.P k fs ρ M l) →
    ∀ al' H' σ' cls dd, Stp H0 al0 M0 H' al' M → Sto Z.toGx H' al' M → Envr Z.K H' al' M σ' ρ → Exr Z.toGy H' al' M k fs cls dd → wNm cx.K W D (lHds Z l) cls dd σ' H'
  | [], hs, _, p, al', H', σ', cls, dd, s, S, E, x => p al' H' σ' cls dd s S E x
  | (k2, i, hx) :: r, [], h, _, _, _, _, _, _, _, _, _, _ => by simp [chkHds] at h
  | (k2, i, hx) :: r, hd :: hs, h, p, al', H', σ', cls, dd, s, S, E, x => by
    have h0 := h
    unfold chkHds at h
    split at h
    · rename_i h1 _; cases h1
    · rename_i k' i' hx' r' x' np nm e pr ph hs' h1 h2
      cases h1; cases h2
      simp only [Bool.and_eq_true, decide_eq_true_eq] at h
      obtain ⟨⟨⟨⟨⟨q1, q2⟩, q3⟩, q4⟩, q5⟩, q6⟩ := h
      split at q1
      · rename_i er2 ek2
        rw [g.P] at ek2
        obtain ⟨er, d, vfs, k1, k3, k4, k5, k6⟩ := id x
        rw [handle, k1] at p
        dsimp only at p
        subst k3
        refine ⟨_, g.lnk.exm k er k2 er2 k1 ek2, fun hb a ha => ?_, fun hb => ?_⟩
        · rw [if_pos hb] at p
          split at p
          case isFalse => exact p.elim
          rename_i hlen
          split at p
          · rename_i dv e1
            have hil : i < σ'.length := by rw [← E.len]; exact hlen
            refine ⟨al', ρ.set i none, M, k, fs, er, dv, S, E.unset i, by rw [List.getElem?_set_self hil], x, k1, e1, fun al2 H2 v s2 S2 r2 => p al2 H2 v (s.trans s2) S2 r2⟩
          · exact p.elim
        · rw [if_neg (by rw [hb]; simp)] at p
          exact hds_sem g q6 p al' H' σ' _ dd s S E x
      · cases q1
    · cases h
end
end G

/-! GSts -/
set_option maxRecDepth 100000
set_option maxHeartbeats 4000000
namespace G
open PySem PySem.Spec PyProof.Rows L2
section
variable {Z : Gz} {n : Nat}
/-- a context for statements -/
structure Gds (Z : Gz) (c : Ck) (cx : Cx) (n : Nat) (W : WX) : Prop where
  g : Good Z c cx n
  tk : Takes cx W
  po : PassesOwn (model cx.prog cx.w) cx.A cx.env cx.xe
  st : cx.stack = cx.env :: cx.outer
  fr : cx.env.frame = some cx.env.locals
  kd : c.sc.kind = .function
theorem Gds.tr {c : Ck} {cx : Cx} {W W' : WX} {pn : List (Addr × Obj)} {xe : Value → Shared → Prop} (q : Gds Z c cx n W) (tk : Takes (cx.tr pn xe) W') (po : PassesOwn (model cx.prog cx.w) cx.A cx.env xe) : Gds Z c (cx.tr pn xe) n W' :=
  ⟨⟨q.g.lnk.of rfl rfl rfl rfl rfl, q.g.P, q.g.sc, q.g.N, q.g.nd, q.g.fn, q.g.calm, q.g.room⟩, tk, po, q.st, q.fr, q.kd⟩
theorem z_tr {c : Ck} {cx : Cx} {W : WX} {b : Sms} {l : List (Nat × Nat × Hx)} {body : List Stmt} {hd : ExceptHandler} {hs : List ExceptHandler} {pos : Pos} (q : Gds Z c cx n W) (hl : chkHds c l (hd :: hs) = true)
    (hb : ∀ (cx' : Cx) (W' : WX), Gds Z c cx' n W' → PSsz Z n cx' W' b body) : PSz Z n cx W (.tr b l) (.Try body (hd :: hs) [] [] pos) := by
  refine (ps_try_named (tb := fun W' => tS Z.toGy W' (rnSs Z n b)) q.st q.fr (by rw [q.g.N]; exact q.g.nd) q.tk (fun W' pn xe tk po => hb _ _ (q.tr tk po)) (hds_ok q.g hl)).imp fun D σ H h => ?_
  unfold rnS at h; simp only [runS] at h
  obtain ⟨al, ρ, M, S, E, p⟩ := h
  refine ⟨al, ρ, M, S, E, ?_⟩
  show PoS _ _ _ _ _ _ (runSs Z.P Z.wf (callF Z.P Z.wf n) b ρ M)
  dsimp only at p
  revert p
  match runSs Z.P Z.wf (callF Z.P Z.wf n) b ρ M with
  | some (.nx ρ2, M2) => exact fun p => p
  | some (.ct ρ2, M2) => exact fun p => p
  | some (.bk ρ2, M2) => exact fun p => p
  | some (.rt d, M2) => exact fun p => p
  | some (.er c fs ρ2, M2) => exact fun p => hds_sem q.g hl p
  | none => exact fun p => p
theorem z_setLc {cx : Cx} {c : Ck} {W : WX} {i : Nat} {y : Str} {py : Pos} {hot : Bool} {gp : Gp} {it : Ip} {t : Tps} {e : Xp} {elt tg iter : Expr} {ifs : List Expr} {scope : Scope} {pos spos : Pos} (g : Good Z c cx n) (hy : c.N[i]? = some y) (hyl : cx.env.scope.names.lookup y = some .local)
    (hsw : swapsWith (.ListComp elt [⟨tg, iter, ifs, 0⟩] scope pos) (some (.Name y py)) spos.line cx.env = pure true) (hi : PI cx tg iter (tI Z W (rnI Z n it))) (hb : blkC cx.N cx.env.scope scope (ownOf c gp) = true)
    (hg : ∀ (s : Shared) (H : Hp) (C : Addr) (cl : List (Str × Addr)) (fp : List Addr), PG (cx.blk s H scope (compEnvC scope cl C cx.env) fp) tg (tGp Z gp))
    (ht : ∀ (s : Shared) (H : Hp) (C : Addr) (cl : List (Str × Addr)) (fp : List Addr), PTs (cx.blk s H scope (compEnvC scope cl C cx.env) fp) ifs (tT Z.toGy WF (rnTs Z n t)))
    (he : ∀ (s : Shared) (H : Hp) (C : Addr) (cl : List (Str × Addr)) (fp : List Addr), PE (cx.blk s H scope (compEnvC scope cl C cx.env) fp) elt (tE Z.toGy WF (rnE Z n e)))
    (hs : ∀ x, foldedSetIterable iter cx.env x = pure x) :
    PSz Z n cx W (.asg (.n i) (.lc hot gp it t e)) (.Assign [.Name y py] (.ListComp elt [⟨tg, iter, ifs, 0⟩] scope pos) spos) :=
  (ps_setLc (spos := spos) g.calm (by rw [g.N]; exact g.nd) (by rw [g.N]; exact hy) hyl hsw hi (blkOk_by hb) hg ht he hs).imp fun D σ H h => by
    refine lc_sem ((asg_sem h).mono fun x H1 hh => ?_)
    obtain ⟨al, ρ, M, d, ρ', S, E, r, e1, k⟩ := hh
    simp only [bindG, Option.some.injEq] at e1
    subst e1
    exact k _ (E.set r i) (wipe_set List.mem_cons_self)

def isLc : Xp → Bool | .lc .. => true | _ => false
/-- a name set by a comprehension on its own line -/
def lcOk (c : Ck) (x : Str) (px : Pos) : Expr → Bool
  | .ListComp _ _ scope vpos => (match c.sc.names.lookup x with | some .local => true | _ => false) && (px.line == vpos.line) && !(scope.names.any fun (n, k) => n == x && (k == .local || k == .cell))
  | _ => false
def asgOk (c : Ck) (e : Xp) : Expr → Expr → Bool
  | .Name x px, v => noComp v || (match c.sc.names.lookup x with | some .local => false | _ => true) || (isLc e && lcOk c x px v)
  | .Tuple .., v => noTup v
  | _, _ => false
mutual
def chkS (c : Ck) : Sm → Stmt → Bool
  | .asg g e, s => match s with | .Assign [tg] v _ => chkG c g tg && chkE c e v && asgOk c e tg v | _ => false
  | .asgF o f e, s => match s with | .Assign [.Attribute l x _] v _ => c.nmd f x && chkE c o l && chkE c e v | _ => false
  | .asgI o i e, s => match s with | .Assign [.Subscript l r _] v _ => chkE c o l && chkE c i r && chkE c e v | _ => false
  | .aug i op e, s => match s with | .AugAssign (.Name x _) op' v _ => c.tgt i x && (decide (op = .add) || decide (op = .sub)) && decide (op' = astB op) && chkE c e v | _ => false
  | .augI o i op e, s => match s with | .AugAssign (.Subscript l r _) op' v _ => (decide (op = .add) || decide (op = .sub)) && decide (op' = astB op) && chkE c o l && chkE c i r && chkE c e v | _ => false
  | .ex e, s => match s with | .Expr v _ => noComp v && chkE c e v | _ => false
  | .ite t a b, s => match s with | .If q xs ys _ => chkT c t q && chkSs c a xs && chkSs c b ys | _ => false
  | .fo g it b, s => match s with | .For tg iter body [] _ => chkI c it iter && chkG c g tg && chkSs c b body | _ => false
  | .fod g i b, s => match s with | .For tg (.Name x p) body [] _ => chkE c (.v i) (.Name x p) && chkG c g tg && chkSs c b body | _ => false
  | .whl t b, s => match s with | .While q body [] _ => chkT c t q && chkSs c b body | _ => false
  | .ret e, s => match s with | .Return (some v) _ => chkE c e v | _ => false
  | .retN, s => match s with | .Return none _ => true | _ => false
  | .rais k as, s => match s with
    | .Raise (some (.Call (.Name x _) es [] _)) none _ => (match c.P.ers[k]? with | some e => decide (e.name = x) | none => false) && c.glb x && !es.isEmpty && chkA c as es
    | _ => false
  | .brk, s => match s with | .Break _ => true | _ => false
  | .ctn, s => match s with | .Continue _ => true | _ => false
  | .pass, s => match s with | .Pass _ => true | _ => false
  | .par i j a b, s => match s with
    | .Assign [.Tuple [.Name x px, .Name y py] _ _] (.Tuple [e, e'] _ _) _ => decide (i ≠ j) && decide (c.N[i]? = some x) && decide (c.N[j]? = some y) && parB c x y px py e e' && chkE c a e && chkE c b e'
    | _ => false
  | .nev, _ => true
  | .tr b l, s => match s with | .Try body (h :: hs) [] [] _ => chkHds c l (h :: hs) && chkSs c b body | _ => false
def chkSs (c : Ck) : Sms → List Stmt → Bool
  | .nil, ss => match ss with | [] => true | _ => false
  | .cons a r, ss => match ss with | s :: ss => chkS c a s && chkSs c r ss | _ => false
end
theorem tgt_plain {gp : Gp} {c : Ck} {tg : Expr} (h : chkG c gp tg = true) : noStar tg = true := by
  cases gp <;> cases tg <;> first | rfl | cases h
theorem z_asgs {cx : Cx} {c : Ck} {W : WX} {gp : Gp} {e : Xp} {tg v : Expr} {pos : Pos} (q : Gds Z c cx n W) (h1 : chkG c gp tg = true) (h2 : chkE c e v = true) (h3 : asgOk c e tg v = true) : PSz Z n cx W (.asg gp e) (.Assign [tg] v pos) := by
  have hg := z_tgt q.g h1
  have hv := sndE e c cx W v q.g q.tk h2
  have hst := tgt_plain h1
  cases tg with
  | Name x px =>
    have h3 : (noComp v || (match c.sc.names.lookup x with | some .local => false | _ => true) || (isLc e && lcOk c x px v)) = true := h3
    rw [Bool.or_eq_true, Bool.or_eq_true] at h3
    rcases h3 with (h3 | h3) | h3
    · exact z_asg hg hv (show swapsWith v (some (.Name x px)) pos.line cx.env = pure false from noComp_of h3) (swapped_other rfl) hst
    · refine z_asg hg hv (show swapsWith v (some (.Name x px)) pos.line cx.env = pure false from sw_cell ?_) (swapped_other rfl) hst
      intro hl
      have hl : cx.env.scope.names.lookup x = some .local := hl
      rw [q.g.sc] at hl
      rw [hl] at h3
      cases h3
    · rw [Bool.and_eq_true] at h3
      cases e with
      | lc hot g2 it t a =>
        unfold chkE at h2
        split at h2
        · rename_i elt tg2 iter ifs scope vpos
          have h4 := h3.2
          unfold lcOk at h4
          simp only [Bool.and_eq_true, Bool.not_eq_true'] at h4
          obtain ⟨⟨k1, k2⟩, k3⟩ := h4
          simp only [Bool.and_eq_true] at h2
          obtain ⟨⟨⟨⟨m1, m2⟩, m3⟩, m4⟩, m5⟩ := h2
          have hl : cx.env.scope.names.lookup x = some .local := by
            rw [q.g.sc]
            split at k1
            · assumption
            · cases k1
          cases gp with
          | t _ => cases h1
          | n i =>
            obtain ⟨t1, _, _⟩ := Ck.tgt_of q.g (show c.tgt i x = true from h1)
            rw [q.g.N] at t1
            exact z_setLc q.g t1 hl (sw_true (by rw [q.g.sc]; exact q.kd) hl k2 k3) (sndI it c cx W _ _ q.g q.tk m1) (by rw [q.g.N, q.g.sc]; exact m2) (fun s H C cl fp => z_tgt (q.g.blk s H _ C cl fp) m3)
              (fun s H C cl fp => sndIfs t _ _ WF _ (q.g.blk s H _ C cl fp) takesF m4) (fun s H C cl fp => sndE a _ _ WF _ (q.g.blk s H _ C cl fp) takesF m5) (sndI_fold it c _ m1)
        · cases h2
      | _ => cases h3.1
  | Tuple es k p => exact z_asg hg hv (sw_other rfl) (swapped_of h3) hst
  | _ => cases h3
mutual
theorem sndS : ∀ (x : Sm) (c : Ck) (cx : Cx) (W : WX) (s : Stmt), Gds Z c cx n W → chkS c x s = true → PSz Z n cx W x s
  | .asg gp e, c, cx, W, s, q, h => by
    unfold chkS at h; split at h
    · simp only [Bool.and_eq_true] at h
      exact z_asgs q h.1.1 h.1.2 h.2
    · cases h
  | .asgF o f e, c, cx, W, s, q, h => by
    unfold chkS at h; split at h
    · simp only [Bool.and_eq_true] at h
      exact z_asgF q.g h.1.1 (sndE o c cx W _ q.g q.tk h.1.2) (sndE e c cx W _ q.g q.tk h.2)
    · cases h
  | .asgI o i e, c, cx, W, s, q, h => by
    unfold chkS at h; split at h
    · simp only [Bool.and_eq_true] at h
      exact z_asgI q.g (plainX_slice (chk_plain _ _ h.1.2)) (sndE o c cx W _ q.g q.tk h.1.1) (sndE i c cx W _ q.g q.tk h.1.2) (sndE e c cx W _ q.g q.tk h.2)
    · cases h
  | .aug i op e, c, cx, W, s, q, h => by
    unfold chkS at h; split at h
    · simp only [Bool.and_eq_true, Bool.or_eq_true, decide_eq_true_eq] at h
      obtain ⟨⟨⟨h1, h2⟩, rfl⟩, h4⟩ := h
      exact z_aug q.g h1 h2 (sndE e c cx W _ q.g q.tk h4)
    · cases h
  | .augI o i op e, c, cx, W, s, q, h => by
    unfold chkS at h; split at h
    · simp only [Bool.and_eq_true, Bool.or_eq_true, decide_eq_true_eq] at h
      obtain ⟨⟨⟨⟨h1, rfl⟩, h3⟩, h4⟩, h5⟩ := h
      exact z_augI q.g (plainX_slice (chk_plain _ _ h4)) h1 (sndE o c cx W _ q.g q.tk h3) (sndE i c cx W _ q.g q.tk h4) (sndE e c cx W _ q.g q.tk h5)
    · cases h
  | .ex e, c, cx, W, s, q, h => by
    unfold chkS at h; split at h
    · rw [Bool.and_eq_true] at h
      exact z_ex h.1 (sndE e c cx W _ q.g q.tk h.2)
    · cases h
  | .ite t a b, c, cx, W, s, q, h => by
    unfold chkS at h; split at h
    · simp only [Bool.and_eq_true] at h
      exact z_ite (sndT t c cx W _ q.g q.tk h.1.1) (sndSs a c cx W _ q h.1.2) (sndSs b c cx W _ q h.2)
    · cases h
  | .fo gp it b, c, cx, W, s, q, h => by
    unfold chkS at h; split at h
    · simp only [Bool.and_eq_true] at h
      exact z_fo q.g q.po (sndI it c cx W _ _ q.g q.tk h.1.1) (z_tgt q.g h.1.2) (sndSs b c cx W _ q h.2) (sndI_fold it c _ h.1.1)
    · cases h
  | .fod gp i b, c, cx, W, s, q, h => by
    unfold chkS at h; split at h
    · simp only [Bool.and_eq_true] at h
      exact z_fod q.g q.po (sndE (.v i) c cx W _ q.g q.tk h.1.1) (z_tgt q.g h.1.2) (sndSs b c cx W _ q h.2) (fun _ => rfl)
    · cases h
  | .whl t b, c, cx, W, s, q, h => by
    unfold chkS at h; split at h
    · simp only [Bool.and_eq_true] at h
      exact z_whl q.po (sndT t c cx W _ q.g q.tk h.1) (sndSs b c cx W _ q h.2)
    · cases h
  | .ret e, c, cx, W, s, q, h => by
    unfold chkS at h; split at h
    · exact z_ret (sndE e c cx W _ q.g q.tk h)
    · cases h
  | .retN, c, cx, W, s, q, h => by
    unfold chkS at h; split at h
    · exact z_retN
    · cases h
  | .rais k as, c, cx, W, s, q, h => by
    unfold chkS at h; split at h
    · rename_i x p es p2 pos
      simp only [Bool.and_eq_true] at h
      obtain ⟨⟨⟨h1, h2⟩, h3⟩, h4⟩ := h
      split at h1
      · rename_i er ek
        rw [decide_eq_true_eq] at h1
        cases es with
        | nil => cases h3
        | cons a es => exact z_rais q.g q.tk (by rw [← q.g.P]; exact ek) h1 h2 (chkA_star _ _ h4) (sndA as c cx W _ q.g q.tk h4)
      · cases h1
    · cases h
  | .brk, c, cx, W, s, q, h => by
    unfold chkS at h; split at h
    · exact z_brk
    · cases h
  | .ctn, c, cx, W, s, q, h => by
    unfold chkS at h; split at h
    · exact z_ctn
    · cases h
  | .pass, c, cx, W, s, q, h => by
    unfold chkS at h; split at h
    · exact z_pass
    · cases h
  | .par i j a b, c, cx, W, s, q, h => by
    unfold chkS at h; split at h
    · simp only [Bool.and_eq_true, decide_eq_true_eq] at h
      obtain ⟨⟨⟨⟨⟨h1, h2⟩, h3⟩, h4⟩, h5⟩, h6⟩ := h
      exact z_par q.g q.kd h1 h2 h3 h4 (sndE a c cx W _ q.g q.tk h5) (sndE b c cx W _ q.g q.tk h6)
    · cases h
  | .nev, c, cx, W, s, q, h => z_nev
  | .tr b l, c, cx, W, s, q, h => by
    unfold chkS at h; split at h
    · rw [Bool.and_eq_true] at h
      exact z_tr q h.1 fun cx' W' q' => sndSs b c cx' W' _ q' h.2
    · cases h
theorem sndSs : ∀ (x : Sms) (c : Ck) (cx : Cx) (W : WX) (ss : List Stmt), Gds Z c cx n W → chkSs c x ss = true → PSsz Z n cx W x ss
  | .nil, c, cx, W, ss, q, h => by
    cases ss with
    | nil => exact z_nilS
    | cons _ _ => simp [chkSs] at h
  | .cons a r, c, cx, W, ss, q, h => by
    cases ss with
    | nil => simp [chkSs] at h
    | cons s ss =>
      rw [chkSs, Bool.and_eq_true] at h
      exact z_consS (sndS a c cx W _ q h.1) (sndSs r c cx W _ q h.2)
end
end
end G

/-! GFun -/
set_option maxRecDepth 100000
set_option maxHeartbeats 4000000
namespace G
open PySem PySem.Spec PyProof.Rows L2
section
variable {Z : Gz} {P : Program} {w : World} {mg : Str → Option Value} {base : Heap}
theorem finish_ok {X : Gy} {H : Hp} {al : Am} {M : Store} {tr : Bool} {o : Out} {Q : VK} {E : XK} {σ : L2.St} (S : Sto X.toGx H al M) (p : Po X (rE X) (fun cls d _ H' => E cls d H') σ H al M Q (finish tr M o)) :
    PoS X (fun cls d _ H' => E cls d H') { nx := fun _ H' => Q .non H', rt := Q } H al M o := by
  revert p
  match o with
  | some (.nx ρ2, M2) =>
    intro p al2 H2 σ2 s2 S2 E2
    simp only [finish] at p
    split at p
    · rename_i c
      obtain ⟨a1, a2, a3⟩ := cut_ok S s2 S2 c.2.2
      exact p al H2 .non a1 a2 non_rep
    · exact p al2 H2 .non s2 S2 non_rep
  | some (.rt d, M2) =>
    intro p al2 H2 v s2 S2 r2
    simp only [finish] at p
    split at p
    · rename_i c
      obtain ⟨a1, a2, a3⟩ := cut_ok S s2 S2 c.2.2
      exact p al H2 v a1 a2 (a3 d v c.2.1 r2)
    · exact p al2 H2 v s2 S2 r2
  | some (.ct ρ2, M2) => exact fun p => p.elim
  | some (.bk ρ2, M2) => exact fun p => p.elim
  | some (.er c fs ρ2, M2) => exact fun p al2 H2 σ2 cls dd s2 S2 E2 x => p al2 H2 cls dd s2 S2 x
  | none => exact fun p => p
theorem start_env {K : PySem.W.Frag} {H : Hp} {al : Am} {M : Store} {ds : List G.D} {vs : List V} {N : List Str} (r : Reps K H al M ds vs) : Envr K H al M (L2.start N vs) (ds.map some ++ List.replicate (N.length - ds.length) none) := by
  have hl := r.length
  unfold L2.start
  rw [hl]
  refine ⟨by simp [hl], fun i d e => ?_⟩
  by_cases hi : i < ds.length
  · rw [List.getElem?_append_left (by simpa using hi), List.getElem?_map] at e
    cases q : ds[i]? with
    | none => rw [q] at e; cases e
    | some d' =>
      rw [q] at e; cases e
      obtain ⟨v, hv, rv⟩ := r.get q
      refine ⟨v, ?_, rv⟩
      rw [List.getElem?_append_left (by simpa [hl] using hi), List.getElem?_map, hv]; rfl
  · rw [List.getElem?_append_right (by simpa using Nat.le_of_not_lt hi), List.getElem?_replicate] at e
    split at e <;> cases e
/-- what is known of a def -/
structure DefG (Z : Gz) (mg : Str → Option Value) (f : Nat) (k : Fn) (st : Stmt) (fd : FuncData) : Prop where
  F : Fun Z.K k.name k.qual st (Z.fa f) fd
  S : FnScope k.names (k.names.take k.np) (defScope st)
  np : k.np ≤ k.names.length
  chk : chkSs ⟨Z.P, defScope st, k.names, fun _ => true⟩ k.body (defBody st) = true
  bd : Binds Z.K fd (k.names.take k.np) []
  gl : k.glob = true → mg k.name = some (.ref (Z.fa f))
/-- .. of an exception -/
structure ErrG (Z : Gz) (P : Program) (w : World) (mg : Str → Option Value) (base : Heap) (k : Nat) (e : Er) : Prop where
  cl : OexC Z.K (Z.ec k)
  init : ∃ (fI : Addr) (fd : FuncData) (ps : List Str), PySem.W.findIn Z.K (.ref (Z.ec k)) "__init__" = some (some (.ref fI)) ∧ PySem.W.typeIn Z.K (.ref fI) = some (.type "function") ∧ FnOk P w Z.K mg base (L2.CX P w) 1 fI fd ps (spX Z k e) ∧ Binds Z.K fd ps []
  fl : ∀ f ∈ e.flds, f < Z.P.nms.length
  ne : e.flds ≠ []
  few : e.flds.length ≤ 900
  nm : mg e.name = some (.ref (Z.ec k))
  xf : XfC Z.K (Z.ec k) ∧ ∀ f ∈ e.flds, PySem.W.findIn Z.K (.ref (Z.ec k)) (Z.nm f) = some none
/-- .. of the whole text -/
structure TxtG (Z : Gz) (P : Program) (w : World) (mg : Str → Option Value) (base : Heap) : Prop where
  df : ∀ f k, Z.P.fns[f]? = some k → ∃ st fd, DefG Z mg f k st fd
  blt : ∀ x ∈ blts, mg x = none
  clm : ∀ c k, Z.P.cls[c]? = some k → mg k.name = some (.ref (Z.cl c)) ∧ Cls Z.K (Z.cl c) ∧ Mk Z.K (Z.cl c) (Z.fa k.init) ∧ (∃ j, Z.P.fns[k.init]? = some j) ∧
    (∀ m g, findM m k.meths = some g → Meth Z.K (Z.cl c) (Z.nm m) (Z.fa g) ∧ ∃ j, Z.P.fns[g]? = some j) ∧ ∀ f ∈ k.flds, NoAttr Z.K (Z.cl c) (Z.nm f)
  er : ∀ k e, Z.P.ers[k]? = some e → ErrG Z P w mg base k e
  exm : ∀ c e k e', Z.P.ers[c]? = some e → Z.P.ers[k]? = some e' → PySem.W.exmOne Z.K (.ref (Z.ec c)) (.ref (Z.ec k)) = some (e.ups.contains k)
  nms : Z.P.nms.Nodup
theorem fn_all (T : TxtG Z P w mg base) : ∀ (n f : Nat) (k : Fn) (st : Stmt) (fd : FuncData), Z.P.fns[f]? = some k → DefG Z mg f k st fd → FnOk P w Z.K mg base (L2.CX P w) (2 * n + 1) (Z.fa f) fd (k.names.take k.np) (spR Z n f)
  | 0, f, k, st, fd, hf, D => by
    refine ⟨fun vs H Q E h => ?_, fun A outer s H args us vs Q E hr he hb hv h => ?_⟩ <;>
    · obtain ⟨al, M, ds, S, r, p⟩ := h
      exact p.elim
  | n + 1, f, k, st, fd, hf, D => by
    have ih := fn_all T n
    refine (Fun.okX (k := 2 * n + 2) D.F D.S (fun vs H Q E h => ?_) fun cdv A outer s H vs Q E hr h => ?_).mono (by omega)
    · obtain ⟨al, M, ds, S, r, p⟩ := h
      rw [callF, hf] at p
      dsimp only at p
      split at p
      · rename_i hl
        rw [r.length, hl, List.length_take]
        have := D.np
        omega
      · exact p.elim
    · obtain ⟨al, M, ds, S, r, p⟩ := h
      rw [callF, hf] at p
      dsimp only at p
      split at p
      · rename_i hl
        refine ⟨tS Z.toGy (fun cls d _ H' => E cls d H') (rnSs Z n k.body), ?_, al, _, M, S, start_env (N := k.names) r, ?_⟩
        · refine sndSs k.body ⟨Z.P, defScope st, k.names, fun _ => true⟩ _ _ _ ⟨⟨⟨rfl, fun g j hg => ?_, fun g j hg hgl => ?_, T.blt, fun c j hc => (T.clm c j hc).1, fun c j hc => (T.clm c j hc).2.1, fun c j hc => ⟨(T.clm c j hc).2.2.1, (T.clm c j hc).2.2.2.1⟩,
            fun c j m g hc hm => (T.clm c j hc).2.2.2.2.1 m g hm, fun c e hc => ?_, fun c e hc => (T.er c e hc).nm, T.exm, fun c e hc => (T.er c e hc).xf, fun c j f hc hf => (T.clm c j hc).2.2.2.2.2 f hf, T.nms⟩, rfl, rfl, rfl, D.S.nd, rfl, rfl, hr⟩, ?_, ?_, rfl, rfl, D.S.kind⟩ D.chk
          · obtain ⟨st', fd', D'⟩ := T.df g j hg
            exact ⟨⟨fd', _, ih g j st' fd' hg D', D'.bd⟩, D'.F.kp⟩
          · obtain ⟨st', fd', D'⟩ := T.df g j hg
            exact D'.gl hgl
          · have e1 := T.er c e hc
            obtain ⟨fI, fd', ps, i1, i2, i3, i4⟩ := e1.init
            exact ⟨⟨e1.cl, fI, fd', ps, i1, i2, i3.mono (by omega), i4⟩, e1.fl, e1.ne, e1.few⟩
          · exact takes_of rfl rfl rfl rfl
          · exact passes_of rfl
        · rw [← hl] at p
          exact finish_ok S p
      · exact p.elim
end
end G

/-! GInit -/
set_option maxRecDepth 100000
set_option maxHeartbeats 4000000
namespace G
open PySem PySem.Spec PyProof.Rows L2

theorem lookup_mem {α : Type} : ∀ {l : List (Str × α)} {x : Str} {u : α}, (l.map (·.1)).Nodup → (x, u) ∈ l → l.lookup x = some u
  | [], x, u, _, h => by cases h
  | (y, w) :: l, x, u, hn, h => by
    rw [List.map_cons, List.nodup_cons] at hn
    rcases List.mem_cons.mp h with e | hm
    · cases e; simp [List.lookup]
    · have hne : ¬ x = y := by
        rintro rfl
        exact hn.1 (List.mem_map.mpr ⟨(x, u), hm, rfl⟩)
      have hb : (x == y) = false := beq_eq_false_iff_ne.mpr hne
      simp only [List.lookup, hb]
      exact lookup_mem hn.2 hm
theorem zip_mem {α β : Type} : ∀ {l : List α} {r : List β} {i : Nat} {a : α} {b : β}, l[i]? = some a → r[i]? = some b → (a, b) ∈ l.zip r
  | [], _, _, _, _, h, _ => by simp at h
  | _ :: _, [], _, _, _, _, h => by simp at h
  | x :: l, y :: r, 0, a, b, h, k => by simp at h k; subst h k; simp
  | x :: l, y :: r, i + 1, a, b, h, k => by
    rw [List.zip_cons_cons]
    exact List.mem_cons_of_mem _ (zip_mem (by simpa using h) (by simpa using k))

/-- the context of such a body -/
def cxI (P : Program) (w : World) (K : PySem.W.Frag) (mg : Str → Option Value) (base : Heap) (N : List Str) (qual : Str) (scope : Scope) (f : Addr) (cd : Value) (cc : Addr) (A : Around) (outer : List Env) (s : Shared) (H : Hp) : Cx where
  prog := P
  w := w
  K := K
  mg := mg
  base := base
  A := A.deeper (PySem.W.ksEnv qual scope s.heap.objs.size f cd cc)
  N := N
  s_0 := s
  H_0 := H
  env := PySem.W.ksEnv qual scope s.heap.objs.size f cd cc
  outer := outer
  stack := PySem.W.ksEnv qual scope s.heap.objs.size f cd cc :: outer
  ex := []
  calm := true
  fn := fun _ => false
  pn := []
  xe := fun _ _ => False
/-- what the written part says of it -/
structure SupG (K : PySem.W.Frag) (P : Program) (mg : Str → Option Value) (C f cda cc : Addr) (qual : Str) (scope : Scope) (fd : FuncData) : Prop where
  fn : ∃ (oc : Value) (od : Option Addr) (osl : Array (Option Value)), K.lookup f = some ⟨oc, od, .func fd, osl⟩
  cd : PySem.W.codeIn K (.ref cda) qual = true
  code : ∃ (ccl : Value) (cdd : Option Addr) (vs : Array Value) (ccs : Array (Option Value)) (file : Str) (tf : Tok), K.lookup cda = some ⟨ccl, cdd, .fields vs, ccs⟩ ∧ vs[2]? = some (.str file tf) ∧ (P.main.file == file) = true
  cell : ∃ (cl : Value) (cld : Option Addr) (csl : Array (Option Value)), K.lookup cc = some ⟨cl, cld, .cell (some (.ref C)), csl⟩
  ini : ∃ cdt, PySem.W.clsIn K C = some cdt ∧ PySem.W.alongIn K "__init__" ((cdt.mro.dropWhile (· != .ref C)).drop 1) = some (some (.builtin "ValueError.__init__"))
  self : PySem.W.mroIn K C (.ref C) = some true
  opq : PySem.W.nsIn K cStatics "thirdparty.any" = some none
  sub : PySem.W.subIn K (.ref C) (.type "ValueError") = some true
  sup : mg "super" = none
  top : (P.main.scope.names.lookup ("super" : Str)).isSome = false
/-- .. and its scope -/
structure SupS (N ps : List Str) (sc : Scope) : Prop where
  kind : sc.kind = .function
  co : sc.isCoroutine = false
  gen : sc.isGenerator = false
  nd : N.Nodup
  pre : N.take ps.length = ps
  par : ∀ x ∈ ps, sc.names.lookup x = some .local
  nocell : ∀ y ∈ sc.names, y.2 ≠ .cell
  free : ∀ y, sc.names.lookup y = some .free → y = "__class__"
  cls : sc.names.lookup ("__class__" : Str) = some .free
  sup : sc.names.lookup ("super" : Str) = some .globalImplicit
section
variable {P : Program} {w : World} {K : PySem.W.Frag} {mg : Str → Option Value} {base : Heap}
theorem inv_sup {C f cda cc : Addr} {qual : Str} {scope : Scope} {fd : FuncData} {N ps : List Str} {A : Around} {outer : List Env} {s : Shared} {H : Hp} {us : List Value} {vs : List V} {h1 : Heap} {tk : Nat} (G0 : SupG K P mg C f cda cc qual scope fd) (S : SupS N ps scope) (hd : A.handled = none)
    (e0 : Env0 P w K mg base A outer s H) (hl : vs.length = ps.length) (r : Vals vs us) (hns : h1.Ns s.heap.objs.size (fun x => (ps.zip us).reverse.lookup x)) (hk : ∀ b o, s.heap.get? b = some o → h1.get? b = some o) :
    Inv (cxI P w K mg base N qual scope f (.ref cda) cc A outer s H) [] (L2.start N vs) H { s with heap := h1, toks := tk } := by
  have hpl : ps.length ≤ N.length := by have := congrArg List.length S.pre; rw [List.length_take] at this; omega
  obtain ⟨cl, cld, csl, hcell⟩ := G0.cell
  have hcb := e0.mod.kin _ _ hcell
  obtain ⟨hcs, hcH⟩ := e0.bs _ _ hcb
  have one : ∀ {x : Str} {c : Addr}, ([("__class__", cc)] : List (Str × Addr)).lookup x = some c → x = "__class__" ∧ c = cc := by
    intro x c h
    by_cases hx : x = "__class__"
    · subst hx; simp [List.lookup] at h; exact ⟨rfl, h.symm⟩
    · have hb : (x == ("__class__" : Str)) = false := beq_eq_false_iff_ne.mpr hx
      simp only [List.lookup, hb] at h; cases h
  refine ⟨⟨e0.mod, S.kind, rfl, rfl, Nat.le_refl _, fun y z c a b => ?_, fun y hy => ?_, fun y c z _ => ?_, fun _ => hd, Around.frames_deeper e0.frames, .inr ⟨rfl, rfl⟩, fun b z => ?_, e0.bs, e0.bsz, fun b _ _ z => ?_, fun b z => ?_, e0.funs, e0.frf⟩,
    rfl, e0.bare, Un.kept hk, ⟨_, hns, fun i y v a b c => ?_⟩, fun y c h => ?_, e0.hok.fresh (Nat.le_refl _), fun y c h => ?_, fun p hp => ?_, e0.hok.kept hk, ?_⟩
  · rw [(one a).1, (one b).1]
  · rcases hy with hy | hy
    · exact absurd rfl (S.nocell _ (PySem.mem_of_lookup hy))
    · have := S.free y hy
      subst this
      exact ⟨cc, rfl⟩
  · cases z
  · cases z
  · cases z
  · cases z
  · have hi : i < vs.length := by
      unfold L2.start at b
      by_cases hi : i < vs.length
      · exact hi
      · rw [List.getElem?_append_right (by simpa using hi), List.getElem?_replicate] at b
        split at b <;> cases b
    have ha : vs[i]? = some v := by
      unfold L2.start at b
      rw [List.getElem?_append_left (by simpa using hi), List.getElem?_map] at b
      cases e : vs[i]? with
      | none => rw [e] at b; cases b
      | some a => rw [e] at b; cases b; rfl
    obtain ⟨u, hu, rv⟩ := r.get ha
    have hp : ps[i]? = some y := by rw [← S.pre, List.getElem?_take_of_lt (by omega)]; exact a
    have ndP : ps.Nodup := by rw [← S.pre]; exact S.nd.sublist (List.take_sublist _ _)
    have hul : us.length = ps.length := by rw [← hl, r.length]
    refine ⟨u, rv, .inl ⟨S.par y (List.mem_of_getElem? hp), ?_⟩⟩
    refine lookup_mem ?_ (List.mem_reverse.mpr (zip_mem hp hu))
    rw [List.map_reverse]
    refine List.pairwise_reverse.mpr (List.Pairwise.imp (fun h => Ne.symm h) ?_)
    rw [List.map_fst_zip (by omega)]
    exact ndP
  · obtain ⟨rfl, rfl⟩ := one h
    exact ⟨_, _, hk _ _ hcs, rfl⟩
  · obtain ⟨rfl, rfl⟩ := one h
    exact hcH
  · cases hp
  · unfold L2.start
    show (vs.map some ++ List.replicate (N.length - vs.length) none).length = N.length
    rw [List.length_append, List.length_map, List.length_replicate]
    omega
end
section
variable {prog : Program} {w : World} {A : Around} {E : Value → Shared → Prop} {h : Heap} {g : Array GenState} {d : Drawn} {tk : Nat} {os : OsState}
theorem call_mw {nm q : Str} {C N x u t0 : Addr} {bs bm bmB : List Value} {hdct : Bool} {sn : List Str} {sub : List Value} {ab : Bool} {col : Option Bool} {dd : Option Addr} {k0 k1 k2 k3 k5 : Option Value} {B newId i : String} {rest : List Value} {Q : Value → Shared → Prop}
    (FB : ExcBaseFacts B newId i bmB) (hC : h.get? C = some (excClassObj nm q C N bs bm hdct sn sub ab col dd k0 k1 k2 k3 k5 newId)) (he : h.get? x = some (HandSPX.excO C t0)) (hu : h.get? u = some (PySem.W.kxs_mw i x)) (hz : rest.length ≤ sizeLine)
    (hq : ∀ h2 t2, (∀ b o, b ≠ x → h.get? b = some o → h2.get? b = some o) → h2.get? x = some (HandSPX.excO C t2) → Q .none ⟨h2, g, d, tk, os⟩) :
    wpAny (model prog w) A (call (.ref u) rest) Q E ⟨h, g, d, tk, os⟩ := by
  refine wpAny_call (codeAny_of_tree ?_)
  show wpAny _ A.in1 (callAny (.ref u) ⟨rest, []⟩) _ _ _
  simp only [callAny]
  refine wpAny_bind (wpAny_load hu ?_)
  simp only [PySem.W.kxs_mw, show (Value.type "method-wrapper" == Value.type "method" || Value.type "method-wrapper" == Value.type "builtin_function_or_method" || Value.type "method-wrapper" == Value.type "method-wrapper") = true by decide, if_true]
  refine PySem.W.KFB.if_so (by decide) ?_
  refine wpAny_bind (PySem.W.check_bound_init FB.toExcCallFacts hC he rfl (wpAny_bind (wpAny_pure (wpAny_pure ?_))))
  refine ⟨plainId_quiet FB.init.plain _, codeAny_builtin FB.initEntry ?_⟩
  exact PySem.W.exc_init_tree (cls := .ref C) (t0 := t0) (dv := none) (c2 := .none) (c3 := .none) (b4 := .bool false) he hz fun h2 k e2 _ => hq h2 _ k e2
end
theorem meth_evS {o : Expr} {m : Str} {es : List Expr} {apos pos : Pos} {env : Env} (h : es.all noStar = true) (hn : es.length < 30) (hl : (apos.endLine == pos.line) = true) :
    ∃ pl, eval (.Call (.Attribute o m apos) es [] pos) env = (do
      let ov ← attributeBase o m env (eval o env)
      standAt apos.atName
      let (f, first) ← holding [ov] (getMethod ov m pl)
      callWith pos f first (backTo pos (starEach es env)) (backToKw pos (keywordEach [] env))) := by
  refine ⟨(do return (← importBound o env).getD true), ?_⟩
  rw [arm_eval_Call]
  have hpos : methodCallPos true o env apos pos = pure pos := by unfold methodCallPos; simp [hl]
  unfold methodCall
  rw [form_of h hn, hpos]
  rfl
section
variable {P : Program} {w : World} {K : PySem.W.Frag} {mg : Str → Option Value} {base : Heap}
/-- THE RULE: super().__init__(text), then the rest -/
theorem fn_super {C f cda cc : Addr} {name qual : Str} {params : Arguments} {rest : List Stmt} {scope : Scope} {dV kV doc pm ct : Value} {an : Option Addr} {N ps : List Str} {sp : Sp} {msg : Str} {j : Nat} {p0 p1 p2 apos pos pos' : Pos} {ar : Arg}
    (G0 : SupG K P mg C f cda cc qual scope (PySem.W.ksFn name qual params (.Expr (.Call (.Attribute (.Call (.Name "super" p0) [] [] p1) "__init__" apos) [.Constant (.str msg) j p2] [] pos) pos' :: rest) scope dV kV doc pm an (.ref cda) ct cc))
    (S : SupS N ps scope) (T : OexC K C) (hli : (apos.endLine == pos.line) = true) (har : (params.posonlyargs ++ params.args).head? = some ar) (har0 : ps.head? = some ar.arg)
    (len : ∀ vs H Q E, sp vs H Q E → vs.length = ps.length)
    (hb : ∀ (A : Around) (outer : List Env) (s : Shared) (H : Hp) (vs : List V) (Q : VK) (E : XK), sp vs H Q E → ∃ (a : Addr) (ws : List V), vs = .ref a :: ws ∧ H a = some (exo a C none) ∧
      ∃ t, PSs (cxI P w K mg base N qual scope f (.ref cda) cc A outer s H) rest t ∧ t { nx := fun _ H' => Q .non H', rt := Q } (L2.start N vs) H) :
    FnOk P w K mg base (L2.CX P w) 1 f (PySem.W.ksFn name qual params (.Expr (.Call (.Attribute (.Call (.Name "super" p0) [] [] p1) "__init__" apos) [.Constant (.str msg) j p2] [] pos) pos' :: rest) scope dV kV doc pm an (.ref cda) ct cc) ps sp := by
  refine ⟨len, fun A outer s H args us vs Q E hr e0 hbind r hsp => ?_⟩
  have hl := len _ _ _ _ hsp
  have KX : K.In s.heap := e0.mod.kin.keeps fun b o e => (e0.bs b o e).1
  have lim : s.heap.NoLimit := e0.mod.nolimit.keeps fun b o e => (e0.bs b o e).1
  obtain ⟨oc, od, osl, lk⟩ := G0.fn
  obtain ⟨ccl, cdd, vsc, ccs, file, tf, lkc, hv2, hfile⟩ := G0.code
  obtain ⟨cl, cld, csl, lcell⟩ := G0.cell
  obtain ⟨cdt, hcd, hal⟩ := G0.ini
  obtain ⟨a, ws, rfl, ha, t, ht, hq⟩ := hb A outer s H vs Q E hsp
  refine PySem.ks_codeAny_call_defAt (fd := PySem.W.ksFn name qual params (.Expr (.Call (.Attribute (.Call (.Name "super" p0) [] [] p1) "__init__" apos) [.Constant (.str msg) j p2] [] pos) pos' :: rest) scope dV kV doc pm an (.ref cda) ct cc) (binds := ps.zip us)
    hr.depth (KX _ _ lk) rfl lim (PySem.W.codeRec_of KX G0.cd) rfl hbind S.nocell (fun y hy => S.par y.1 (List.of_mem_zip hy).1) (fun h1 hns hk => ?_) S.co S.gen S.kind
  have I := inv_sup (tk := s.toks + (ps.zip us).length) G0 S hr.hd e0 hl r hns hk
  obtain ⟨hp, g, d, t0, os⟩ := s
  have K1 : K.In h1 := I.kIn
  obtain ⟨t1, ho⟩ := exo_at I.hok ha
  obtain ⟨oD, hD1, hD2⟩ : ∃ oD, h1.get? C = some oD ∧ oD.data = .cls cdt := by
    unfold PySem.W.clsIn at hcd
    split at hcd
    · rename_i c d' cd' sl hoC
      cases hcd
      exact ⟨_, K1 _ _ hoC, rfl⟩
    · cases hcd
  have hka : scope.names.lookup ar.arg = some .local := S.par _ (List.mem_of_mem_head? har0)
  obtain ⟨u0, ur, rfl, rw'⟩ : ∃ u0 ur, us = .ref a :: ur ∧ Vals ws ur := by
    cases r with
    | @cons _ u0 _ ur ra rr => exact ⟨u0, ur, by rw [show u0 = Value.ref a from ra], rr⟩
  obtain ⟨pr, rfl⟩ : ∃ pr, ps = ar.arg :: pr := by
    cases ps with
    | nil => cases har0
    | cons p pr => cases har0; exact ⟨pr, rfl⟩
  have hvs : ((((ar.arg :: pr).zip (Value.ref a :: ur)).reverse).lookup ar.arg) = some (.ref a) := by
    have ndP : (ar.arg :: pr).Nodup := by rw [← S.pre]; exact S.nd.sublist (List.take_sublist _ _)
    refine lookup_mem ?_ (List.mem_reverse.mpr (by rw [List.zip_cons_cons]; exact List.mem_cons_self))
    rw [List.map_reverse]
    refine List.pairwise_reverse.mpr (List.Pairwise.imp (fun h => Ne.symm h) ?_)
    have : (Value.ref a :: ur).length = (ar.arg :: pr).length := by
      rw [← hl, List.length_cons, List.length_cons, rw'.length]
    rw [List.map_fst_zip (by omega)]
    exact ndP
  have hnsup : (base.Ns mainGlobals mg) := e0.mod.glob
  obtain ⟨mb, hb1, hb2⟩ := e0.mod.blt
  have up0 : ∀ b o, base.get? b = some o → h1.get? b = some o := fun b o e => hk b o (e0.bs b o e).1
  have hintr : interactive (PySem.W.ksEnv qual scope hp.objs.size f (.ref cda) cc) = false := by simp [interactive, S.kind]
  obtain ⟨pl, hev⟩ := meth_evS (o := .Call (.Name "super" p0) [] [] p1) (m := "__init__") (es := [.Constant (.str msg) j p2]) (apos := apos) (pos := pos) (env := PySem.W.ksEnv qual scope hp.objs.size f (.ref cda) cc) rfl (by show 1 < 30; decide) hli
  show _root_.PySem.wpAt (model P w) (A.deeper (PySem.W.ksEnv qual scope hp.objs.size f (.ref cda) cc)) _ (execs (.Expr (.Call (.Attribute (.Call (.Name "super" p0) [] [] p1) "__init__" apos) [.Constant (.str msg) j p2] [] pos) pos' :: rest) (PySem.W.ksEnv qual scope hp.objs.size f (.ref cda) cc)) _ _ _
  rw [execs_cons, exec_Expr _ _ _ hintr rfl, hev]
  refine PySem.wpAt_bind (PySem.wpAt_bind (PySem.wpAt_of_wpAny (wpAny_standAt ?_)))
  refine PySem.wpAt_bind (PySem.wpAt_bind ?_)
  refine PySem.ks_wpAt_super_base S.sup S.cls (by decide) rfl (K1 _ _ lk) rfl har rfl (K1 _ _ lkc) rfl hv2 hfile G0.top ?_
  refine PySem.W.ks_loadName_global S.kind S.sup (Calls.loadGlobal_builtin (hnsup.keeps up0) G0.sup (hb1.keeps up0) ((hb2 _ (by decide)).trans PyProof.Rows.Boot.«super») ⟨rfl, ?_⟩)
  refine wpAny_loadName_free S.kind S.cls rfl ⟨_, K1 _ _ lcell, rfl⟩ ?_
  refine wpAny_loadName_local S.kind hka hns hvs ?_
  refine PySem.ks_wpAny_isType_cls hD1 hD2 ⟨rfl, ?_⟩
  refine PySem.ks_wpAny_call_super hD1 hD2 ho rfl (fun c z => by cases z) (PySem.W.looks_mroIn K1 G0.self) (fun h2 e2 k2 => ?_)
  refine PySem.wpAt_of_wpAny (wpAny_bind (wpAny_standAt (wpAny_bind (wpAny_holding ?_))))
  have K2 : K.In h2 := K1.keeps k2
  have ho2 := k2 _ _ ho
  have hI2 : PySem.W.InstAt h2 a _ C none := ⟨ho2, rfl, rfl, trivial⟩
  refine PySem.W.kxs_getMethod PySem.W.kxs_ValueError e2 (PySem.W.looks_opaque K2 G0.opq) (l₀ := cdt.mro) (fun A Q E s k q => wpAny_bind ((PySem.W.looks_clsIn K2 hcd) A _ E s k (wpAny_pure q))) rfl K2 hal (hI2.type.andThen (PySem.W.looks_subIn K2 G0.sub)) (PySem.W.ks_ne K2 hI2 hcd) (by decide) ?_
  have k3 : ∀ b o, h1.get? b = some o → (h2.push (PySem.W.kxs_mw "ValueError.__init__" a)).get? b = some o := fun b o e => Heap.get?_push_of_some _ (k2 b o e)
  have hu3 : (h2.push (PySem.W.kxs_mw "ValueError.__init__" a)).get? h2.objs.size = some (PySem.W.kxs_mw "ValueError.__init__" a) := Heap.get?_push_at rfl rfl
  refine PySem.W.kxs_callWith (i := "ValueError.__init__") (x := a) rfl (Calls.evalArgs_plain (Calls.spliced_cons (Calls.Constant_str (k := j) (pos := p2) (Calls.spliced_nil ⟨hu3, ?_⟩))))
  obtain ⟨nm, q, N', bs, bm, sn, sub, ab, col, dd, k0, k1, k2', k3', k5, hC, hbm⟩ := T.cls
  refine call_mw F.excBase_ValueError (k3 _ _ (K1 _ _ hC)) (k3 _ _ ho) hu3 (by show 1 ≤ sizeLine; decide) fun h4 t4 k4 e4 => ?_
  refine PySem.wpAt_of_wpAny (wpAny_dropValue (PySem.wpAt_of_wpAny ?_))
  have I3 := I.kept (t' := t0 + ((ar.arg :: pr).zip (Value.ref a :: ur)).length + 1 + 1) k3
  have J := I3.write (t' := t0 + ((ar.arg :: pr).zip (Value.ref a :: ur)).length + 1 + 1) (x := a) (e := a) (o := exo a C none) (by rw [ha]; exact True.intro) (.inl rfl) k4 ⟨_, e4⟩ (exo_ok e4)
  have eu : upd H a (exo a C none) = H := by
    funext b
    by_cases hbq : b = a
    · rw [hbq, upd_same, ha]
    · rw [upd_ne hbq]
  rw [eu] at J
  show wpAny (model P w) (A.deeper (PySem.W.ksEnv qual scope hp.objs.size f (.ref cda) cc)) (execs rest (PySem.W.ksEnv qual scope hp.objs.size f (.ref cda) cc)) _ _ _
  refine wpAny_mono (ht.run [] _ (L2.start N (.ref a :: ws)) H _ J hq) (fun fl s' hs => ?_) fun _ _ z => False.elim z
  cases fl with
  | ret u =>
    obtain ⟨v, σ', H', J', rv, q⟩ := hs
    exact ⟨v, H', J'.os, J'.bare, J'.base, J'.hok, rv, q⟩
  | next =>
    obtain ⟨σ', H', J', q⟩ := hs
    exact ⟨.non, H', J'.os, J'.bare, J'.base, J'.hok, rfl, q⟩
  | brk =>
    obtain ⟨_, _, _, q⟩ := hs
    exact False.elim q
  | cont =>
    obtain ⟨_, _, _, q⟩ := hs
    exact False.elim q

def chkRest (N : List Str) (sc : Scope) : List Str → Nat → List Stmt → Bool
  | [], _, r => match r with | [] => true | _ => false
  | f :: fs, i, r => match r with
    | .Assign [.Attribute (.Name s _) g _] (.Name x _) _ :: r => decide (g = f) && decide (N[0]? = some s) && decide (N[i]? = some x) && (match sc.names.lookup s with | some .local => true | _ => false) && (match sc.names.lookup x with | some .local => true | _ => false) &&
      !(s == ("__debug__" : Str)) && !(s == ("__classdict__" : Str)) && !(x == ("__debug__" : Str)) && !(x == ("__classdict__" : Str)) && chkRest N sc fs (i + 1) r
    | _ => false
theorem rest_one {X : Cx} {N : List Str} {sc : Scope} {f : Str} {fs : List Str} {i : Nat} {r : List Stmt} (hN : X.N = N) (hS : X.env.scope = sc) (h : chkRest N sc (f :: fs) i r = true) :
    ∃ st r', r = st :: r' ∧ PS X st (tOst X.K f (tVar 0) (tVar i)) ∧ chkRest N sc fs (i + 1) r' = true := by
  unfold chkRest at h
  split at h
  · rename_i s ps g pa x px pos r'
    simp only [Bool.and_eq_true, decide_eq_true_eq, Bool.not_eq_true'] at h
    obtain ⟨⟨⟨⟨⟨⟨⟨⟨⟨rfl, q1⟩, q2⟩, q3⟩, q4⟩, q5⟩, q6⟩, q7⟩, q8⟩, q9⟩ := h
    have l1 : X.env.scope.names.lookup s = some .local := by
      rw [hS]; split at q3
      · assumption
      · cases q3
    have l2 : X.env.scope.names.lookup x = some .local := by
      rw [hS]; split at q4
      · assumption
      · cases q4
    exact ⟨_, _, rfl, ps_ost (pe_var (by rw [hN]; exact q1) (.inl l1) q5 q6) (pe_var (by rw [hN]; exact q2) (.inl l2) q7 q8), q9⟩
  · cases h
theorem rest_old {X : Cx} {N : List Str} {sc : Scope} {C : Addr} (hN : X.N = N) (hS : X.env.scope = sc) (T : OexC X.K C) : ∀ (fs : List Str) (i : Nat) (r : List Stmt), chkRest N sc fs i r = true → (∀ f ∈ fs, PySem.W.findIn X.K (.ref C) f = some none) →
    ∃ t, PSs X r t ∧ ∀ (D : Ends) (σ : L2.St) (H : Hp) (a d : Addr) (old : List (Str × V)) (us : List V), H a = some (exo a C (some d)) → H d = some (exd d old) → old.length + fs.length ≤ 900 → d ≠ a → σ[0]? = some (some (.ref a)) → us.length = fs.length →
      (∀ (j : Nat) u, us[j]? = some u → σ[i + j]? = some (some u)) → D.nx σ (upd H d (exd d ((fs.zip us).reverse ++ old))) → t D σ H
  | [], i, r, h, hf => by
    cases r with
    | cons _ _ => simp [chkRest] at h
    | nil =>
      refine ⟨tNext, pss_nil, fun D σ H a d old us h1 h2 h3 hda h4 h5 h6 k => ?_⟩
      have e : upd H d (exd d old) = H := by
        funext b
        by_cases hb : b = d
        · subst hb; rw [upd_same, h2]
        · rw [upd_ne hb]
      have k : D.nx σ (upd H d (exd d old)) := k
      rw [e] at k
      exact k
  | f :: fs, i, r, h, hf => by
    obtain ⟨st, r', rfl, p1, h'⟩ := rest_one hN hS h
    obtain ⟨t, pt, ht⟩ := rest_old hN hS T fs (i + 1) r' h' (fun g hg => hf g (List.mem_cons_of_mem _ hg))
    refine ⟨_, pss_cons p1 pt, fun D σ H a d old us h1 h2 h3 hda h4 h5 h6 k => ?_⟩
    cases us with
    | nil => cases h5
    | cons u us =>
      rw [List.length_cons] at h3
      refine ⟨u, h6 0 u rfl, .ref a, h4, a, C, rfl, T, hf f List.mem_cons_self, .inr ⟨d, old, h1, h2, by omega, ?_⟩⟩
      refine ht D σ _ a d ((f, u) :: old) us (by rw [upd_ne (Ne.symm hda)]; exact h1) upd_same (by rw [List.length_cons]; omega) hda h4 (by simpa using h5) (fun j w hw => by rw [show i + 1 + j = i + (j + 1) by omega]; exact h6 (j + 1) w (by simpa using hw)) ?_
      rw [List.zip_cons_cons, List.reverse_cons, List.append_assoc] at k
      have e : upd (upd H d (exd d ((f, u) :: old))) d (exd d ((fs.zip us).reverse ++ (f, u) :: old)) = upd H d (exd d ((fs.zip us).reverse ++ (f, u) :: old)) := by
        funext b
        by_cases hb : b = d
        · subst hb; rw [upd_same, upd_same]
        · rw [upd_ne hb, upd_ne hb, upd_ne hb]
      rw [e]
      exact k
theorem rest_new {X : Cx} {N : List Str} {sc : Scope} {C : Addr} {f : Str} {fs : List Str} {r : List Stmt} (hN : X.N = N) (hS : X.env.scope = sc) (T : OexC X.K C) (h : chkRest N sc (f :: fs) 1 r = true) (hf : ∀ g ∈ f :: fs, PySem.W.findIn X.K (.ref C) g = some none) (hfew : (f :: fs).length ≤ 900) :
    ∃ t, PSs X r t ∧ ∀ (D : Ends) (σ : L2.St) (H : Hp) (a : Addr) (us : List V), H a = some (exo a C none) → σ[0]? = some (some (.ref a)) → us.length = (f :: fs).length → (∀ (j : Nat) u, us[j]? = some u → σ[1 + j]? = some (some u)) →
      (∀ d, H d = none → d ≠ a → D.nx σ (upd (upd H d (exd d (((f :: fs).zip us).reverse))) a (exo a C (some d)))) → t D σ H := by
  obtain ⟨st, r', rfl, p1, h'⟩ := rest_one hN hS h
  obtain ⟨t, pt, ht⟩ := rest_old hN hS T fs 2 r' h' (fun g hg => hf g (List.mem_cons_of_mem _ hg))
  refine ⟨_, pss_cons p1 pt, fun D σ H a us h1 h4 h5 h6 k => ?_⟩
  cases us with
  | nil => cases h5
  | cons u us =>
    rw [List.length_cons] at hfew
    refine ⟨u, h6 0 u rfl, .ref a, h4, a, C, rfl, T, hf f List.mem_cons_self, .inl ⟨h1, fun d hd hda => ?_⟩⟩
    refine ht D σ _ a d [(f, u)] us upd_same (by rw [upd_ne hda, upd_same]) (by show 1 + _ ≤ _; omega) hda h4 (by simpa using h5) (fun j w hw => by rw [show 2 + j = 1 + (j + 1) by omega]; exact h6 (j + 1) w (by simpa using hw)) ?_
    have k' := k d hd hda
    rw [List.zip_cons_cons, List.reverse_cons] at k'
    have e : upd (upd (upd H d (exd d [(f, u)])) a (exo a C (some d))) d (exd d ((fs.zip us).reverse ++ [(f, u)])) = upd (upd H d (exd d ((fs.zip us).reverse ++ [(f, u)]))) a (exo a C (some d)) := by
      funext b
      by_cases hb : b = d
      · subst hb; rw [upd_same, upd_ne hda, upd_same]
      · rw [upd_ne hb]
        by_cases hba : b = a
        · subst hba; rw [upd_same, upd_same]
        · rw [upd_ne hba, upd_ne hb, upd_ne hba, upd_ne hb]
    rw [e]
    exact k'
/-- an exception's __init__ keeps spX -/
theorem init_ok {Z : Gz} {k : Nat} {e : Er} {f cda cc : Addr} {name qual : Str} {params : Arguments} {rest : List Stmt} {scope : Scope} {dV kV doc pm ct : Value} {an : Option Addr} {N : List Str} {msg : Str} {j : Nat} {p0 p1 p2 apos pos pos' : Pos} {ar : Arg} {g : Str} {gs : List Str}
    (G0 : SupG Z.K P mg (Z.ec k) f cda cc qual scope (PySem.W.ksFn name qual params (.Expr (.Call (.Attribute (.Call (.Name "super" p0) [] [] p1) "__init__" apos) [.Constant (.str msg) j p2] [] pos) pos' :: rest) scope dV kV doc pm an (.ref cda) ct cc))
    (S : SupS N N scope) (T : OexC Z.K (Z.ec k)) (hli : (apos.endLine == pos.line) = true) (har : (params.posonlyargs ++ params.args).head? = some ar) (har0 : N.head? = some ar.arg) (hl : N.length = e.flds.length + 1)
    (hfl : e.flds.map Z.nm = (g :: gs).reverse) (hc : chkRest N scope (g :: gs) 1 rest = true) (hno : ∀ h ∈ g :: gs, PySem.W.findIn Z.K (.ref (Z.ec k)) h = some none) (hfew : e.flds.length ≤ 900) :
    FnOk P w Z.K mg base (L2.CX P w) 1 f (PySem.W.ksFn name qual params (.Expr (.Call (.Attribute (.Call (.Name "super" p0) [] [] p1) "__init__" apos) [.Constant (.str msg) j p2] [] pos) pos' :: rest) scope dV kV doc pm an (.ref cda) ct cc) N (spX Z k e) := by
  have hlen : e.flds.length = (g :: gs).length := by rw [← List.length_map (f := Z.nm), hfl, List.length_reverse]
  refine fn_super G0 S T hli har har0 (fun vs H Q E h => ?_) fun A outer s H vs Q E h => ?_
  · obtain ⟨a, us, rfl, hu, _⟩ := h
    rw [List.length_cons, hu, hl]
  · obtain ⟨a, us, rfl, hu, ha, q⟩ := h
    obtain ⟨t, pt, ht⟩ := rest_new (X := cxI P w Z.K mg base N qual scope f (.ref cda) cc A outer s H) (r := rest) rfl rfl T hc hno (by omega)
    refine ⟨a, us, rfl, ha, t, pt, ht _ _ H a us ha ?_ (by rw [hu, hlen]) (fun j u hj => ?_) fun d hd hda => ?_⟩
    · unfold L2.start; simp
    · unfold L2.start
      have hj' := (List.getElem?_eq_some_iff.mp hj).1
      rw [List.getElem?_append_left (by rw [List.length_map, List.length_cons]; omega), List.getElem?_map, show 1 + j = j + 1 by omega, List.getElem?_cons_succ, hj]; rfl
    · have e1 : ((g :: gs).zip us).reverse = (e.flds.map Z.nm).zip us.reverse := by
        rw [hfl]
        exact List.reverse_zipWith (by rw [hu, hlen])
      rw [e1]
      exact q d hd hda
end
end G

/-! GFact -/
set_option maxRecDepth 100000
set_option maxHeartbeats 4000000
namespace G
open PySem PySem.Spec PyProof.Rows L2
section
variable {K : PySem.W.Frag}
/-- a def stands at f -/
def Dk (K : PySem.W.Frag) (x qual : Str) (st : Stmt) (f : Addr) : Prop := ∃ fd, Fun K x qual st f fd
theorem Dk.make {x qual : Str} {st : Stmt} {f : Addr} {oc : Value} {od an : Option Addr} {osl : Array (Option Value)} {kV doc pm cdv ct : Value} (l : K.lookup f = some ⟨oc, od, .func (PySem.W.fnOf x qual (defArgs st) (defBody st) (defScope st) .none kV doc pm an cdv ct), osl⟩)
    (c : PySem.W.codeIn K cdv qual = true) (k : PySem.W.keepIn K (.ref f) = true) : Dk K x qual st f := ⟨_, fun_mk l c k⟩
/-- a class whose objects are plain; fi its __init__ -/
structure Ck1 (K : PySem.W.Frag) (C fi : Addr) : Prop where
  cl : Cls K C
  mks : Mk K C fi
theorem Ck1.make {C fi : Addr} (pg : PySem.W.plainGet K C Str.empty = true) (hd : PySem.W.hasDictIn K C = true) (po : PySem.W.plainOver K C = true) (sa : PySem.W.findIn K (.ref C) "__setattr__" = some (some (.builtin "object.__setattr__"))) (mk : PySem.W.makesIn K C = true) (kc : PySem.W.keepIn K (.ref C) = true)
    (a1 : PySem.W.findIn K (.ref C) "__init__" = some (some (.ref fi))) (i1 : PySem.W.isFn K (.ref fi) = true) : Ck1 K C fi := ⟨⟨pg, hd, po, sa⟩, ⟨mk, a1, i1, kc⟩⟩
/-- an exception class with an own __init__ that says super().__init__ -/
structure Ek1 (K : PySem.W.Frag) (C fi : Addr) : Prop where
  cl : OexC K C
  xf : XfC K C
  ini : PySem.W.findIn K (.ref C) "__init__" = some (some (.ref fi))
  ty : PySem.W.typeIn K (.ref fi) = some (.type "function")
  hd : PySem.W.hasDictIn K C = true
theorem Ek1.make {C fi : Addr} {nm q : Str} {N : Addr} {bs bm : List Value} {sn : List Str} {sub : List Value} {ab : Bool} {col : Option Bool} {dd : Option Addr} {k0 k1 k2 k3 k5 : Option Value}
    (xL : K.lookup C = some (excClassObj nm q C N bs bm true sn sub ab col dd k0 k1 k2 k3 k5 "ValueError.__new__")) (hbm : PySem.HandSPX.refsVE bm = true)
    (sa : PySem.W.findIn K (.ref C) "__setattr__" = some (some (.builtin "object.__setattr__"))) (ga : PySem.W.findIn K (.ref C) "__getattribute__" = some (some (.builtin "BaseException.__getattribute__"))) (gg : PySem.W.findIn K (.ref C) "__getattr__" = some none)
    (ex : PySem.W.subIn K (.ref C) (.type "BaseException") = some true) (ty : PySem.W.typeIn K (.ref C) = some (.type "type")) (kc : PySem.W.keepIn K (.ref C) = true) (hd : PySem.W.hasDictIn K C = true)
    (ini : PySem.W.findIn K (.ref C) "__init__" = some (some (.ref fi))) (tf : PySem.W.typeIn K (.ref fi) = some (.type "function")) : Ek1 K C fi :=
  ⟨⟨⟨nm, q, N, bs, bm, sn, sub, ab, col, dd, k0, k1, k2, k3, k5, xL, hbm⟩, sa, ex, ty, kc⟩, ⟨ga, gg, ex, hd⟩, ini, tf, hd⟩
end
/-- the scope of an __init__ that says super() -/
def supB (N : List Str) (sc : Scope) : Bool :=
  (match sc.kind with | .function => true | _ => false) && !sc.isCoroutine && !sc.isGenerator && decide N.Nodup && (N.all fun x => match sc.names.lookup x with | some .local => true | _ => false) &&
    (sc.names.all fun y => match y.2 with | .cell => false | .free => decide (y.1 = "__class__") | _ => true) && (match sc.names.lookup ("__class__" : Str) with | some .free => true | _ => false) && (match sc.names.lookup ("super" : Str) with | some .globalImplicit => true | _ => false)
theorem supS_of {N : List Str} {sc : Scope} (h : supB N sc = true) : SupS N N sc := by
  unfold supB at h
  simp only [Bool.and_eq_true, decide_eq_true_eq, List.all_eq_true, Bool.not_eq_true'] at h
  obtain ⟨⟨⟨⟨⟨⟨⟨h1, h2⟩, h3⟩, h4⟩, h5⟩, h6⟩, h7⟩, h8⟩ := h
  refine ⟨?_, h2, h3, h4, List.take_length, fun x hx => ?_, fun y hy e => ?_, fun y e => ?_, ?_, ?_⟩
  · split at h1
    · assumption
    · cases h1
  · have q := h5 x hx
    split at q
    · assumption
    · cases q
  · have q := h6 y hy
    rw [e] at q; cases q
  · have q := h6 _ (PySem.mem_of_lookup e)
    exact of_decide_eq_true q
  · split at h7
    · assumption
    · cases h7
  · split at h8
    · assumption
    · cases h8
/-- the shape of such an __init__ -/
def initB (N : List Str) (fl : List Str) (st : Stmt) : Bool := match defBody st with
  | .Expr (.Call (.Attribute (.Call (.Name x _) [] [] _) m apos) [.Constant (.str _) _ _] [] pos) _ :: rest => decide (x = "super") && decide (m = "__init__") && (apos.endLine == pos.line) && chkRest N (defScope st) fl 1 rest && supB N (defScope st) &&
      (match ((defArgs st).posonlyargs ++ (defArgs st).args).head? with | some ar => decide (N.head? = some ar.arg) | none => false)
  | _ => false
/-- the def of it as the written part has it -/
def Ik (K : PySem.W.Frag) (P : Program) (mg : Str → Option Value) (name qual : Str) (st : Stmt) (C fi : Addr) (fd : FuncData) : Prop :=
  ∃ (kV doc pm ct : Value) (an : Option Addr) (cda cc : Addr), fd = PySem.W.ksFn name qual (defArgs st) (defBody st) (defScope st) .none kV doc pm an (.ref cda) ct cc ∧ SupG K P mg C fi cda cc qual (defScope st) fd
theorem init_of {Z : Gz} {P : Program} {w : World} {mg : Str → Option Value} {base : Heap} {k : Nat} {e : Er} {fi : Addr} {name qual : Str} {st : Stmt} {N fl : List Str} {fd : FuncData} (I : Ik Z.K P mg name qual st (Z.ec k) fi fd) (E : Ek1 Z.K (Z.ec k) fi) (h : initB N fl st = true)
    (hl : N.length = e.flds.length + 1) (hfl : e.flds.map Z.nm = fl.reverse) (hne : fl ≠ []) (hno : ∀ f ∈ fl, PySem.W.findIn Z.K (.ref (Z.ec k)) f = some none) (hfew : e.flds.length ≤ 900) : FnOk P w Z.K mg base (L2.CX P w) 1 fi fd N (spX Z k e) := by
  obtain ⟨kV, doc, pm, ct, an, cda, cc, rfl, G0⟩ := I
  unfold initB at h
  split at h
  · rename_i x p0 p1 m apos msg j p2 pos pos' rest eb
    simp only [Bool.and_eq_true, decide_eq_true_eq] at h
    obtain ⟨⟨⟨⟨⟨rfl, rfl⟩, h3⟩, h4⟩, h5⟩, h6⟩ := h
    split at h6
    · rename_i ar ea
      rw [decide_eq_true_eq] at h6
      rw [eb] at G0 ⊢
      cases fl with
      | nil => exact absurd rfl hne
      | cons g gs => exact init_ok G0 (supS_of h5) E.cl h3 ea h6 hl hfl h4 hno hfew
    · cases h6
  · cases h
end G
namespace G
open PySem PySem.Spec PyProof.Rows L2
theorem Ik.make {K : PySem.W.Frag} {P : Program} {mg : Str → Option Value} {h : Heap} (X : K.In h) (G : h.Ns mainGlobals mg) {name qual : Str} {st : Stmt} {C fi cda cc : Addr} {oc ccl cl kV doc pm ct : Value} {od cdd cld an : Option Addr} {osl ccs csl : Array (Option Value)} {vs : Array Value} {file : Str} {tf : Tok}
    (lk : K.lookup fi = some ⟨oc, od, .func (PySem.W.ksFn name qual (defArgs st) (defBody st) (defScope st) .none kV doc pm an (.ref cda) ct cc), osl⟩) (cd : PySem.W.codeIn K (.ref cda) qual = true) (code : K.lookup cda = some ⟨ccl, cdd, .fields vs, ccs⟩) (hv : vs[2]? = some (.str file tf)) (hf : (P.main.file == file) = true)
    (cell : K.lookup cc = some ⟨cl, cld, .cell (some (.ref C)), csl⟩) (hm : PySem.W.ks_superIn K C C "__init__" = some (some (.builtin "ValueError.__init__"))) (self : PySem.W.mroIn K C (.ref C) = some true) (opq : PySem.W.nsIn K cStatics "thirdparty.any" = some none)
    (sub : PySem.W.subIn K (.ref C) (.type "ValueError") = some true) (sup : PySem.W.nsIn K mainGlobals "super" = some none) (top : (P.main.scope.names.lookup ("super" : Str)).isSome = false) : ∃ fd, Ik K P mg name qual st C fi fd := by
  refine ⟨_, kV, doc, pm, ct, an, cda, cc, rfl, ⟨_, _, _, lk⟩, cd, ⟨_, _, _, _, _, _, code, hv, hf⟩, ⟨_, _, _, cell⟩, ?_, self, opq, sub, PySem.W.mg_none_of X G sup, top⟩
  unfold PySem.W.ks_superIn at hm
  cases e : PySem.W.clsIn K C with
  | none => rw [e] at hm; cases hm
  | some cdt => rw [e] at hm; exact ⟨cdt, rfl, hm⟩
def DefAll (Z : Gz) (mg : Str → Option Value) : Nat → List Fn → Prop
  | _, [] => True
  | i, k :: r => (∃ st fd, DefG Z mg i k st fd) ∧ DefAll Z mg (i + 1) r
theorem DefAll.get {Z : Gz} {mg : Str → Option Value} : ∀ {l : List Fn} {i : Nat}, DefAll Z mg i l → ∀ (j : Nat) k, l[j]? = some k → ∃ st fd, DefG Z mg (i + j) k st fd
  | [], i, _, j, k, e => by simp at e
  | x :: l, i, h, 0, k, e => by
    simp at e; subst e; exact h.1
  | x :: l, i, h, j + 1, k, e => by
    have := DefAll.get h.2 j k (by simpa using e)
    rw [show i + (j + 1) = i + 1 + j by omega]; exact this
structure ErrF (Z : Gz) (P : Program) (mg : Str → Option Value) (k : Nat) (e : Er) : Prop where
  ex : ∃ (fi : Addr) (name qual : Str) (st : Stmt) (N fl : List Str) (fd : FuncData), Ik Z.K P mg name qual st (Z.ec k) fi fd ∧ Ek1 Z.K (Z.ec k) fi ∧ initB N fl st = true ∧ N.length = e.flds.length + 1 ∧ e.flds.map Z.nm = fl.reverse ∧ fl ≠ [] ∧ (∀ f ∈ fl, PySem.W.findIn Z.K (.ref (Z.ec k)) f = some none) ∧ Binds Z.K fd N []
  fl : ∀ f ∈ e.flds, f < Z.P.nms.length
  few : e.flds.length ≤ 900
  nm : mg e.name = some (.ref (Z.ec k))
theorem ErrF.ok {Z : Gz} {P : Program} {w : World} {mg : Str → Option Value} {base : Heap} {k : Nat} {e : Er} (E : ErrF Z P mg k e) : ErrG Z P w mg base k e := by
  obtain ⟨fi, name, qual, st, N, fl, fd, I, K1, h1, h2, h3, h4, h5, h6⟩ := E.ex
  refine ⟨K1.cl, ⟨fi, fd, N, K1.ini, K1.ty, init_of I K1 h1 h2 h3 h4 h5 E.few, h6⟩, E.fl, ?_, E.few, E.nm, K1.xf, fun f hf => ?_⟩
  · intro z
    rw [z] at h3
    exact h4 (List.reverse_eq_nil_iff.mp h3.symm)
  · refine h5 _ ?_
    rw [← List.mem_reverse, ← h3]
    exact List.mem_map_of_mem hf
def ErrAll (Z : Gz) (P : Program) (mg : Str → Option Value) : Nat → List Er → Prop
  | _, [] => True
  | i, k :: r => ErrF Z P mg i k ∧ ErrAll Z P mg (i + 1) r
theorem ErrAll.get {Z : Gz} {P : Program} {mg : Str → Option Value} : ∀ {l : List Er} {i : Nat}, ErrAll Z P mg i l → ∀ (j : Nat) k, l[j]? = some k → ErrF Z P mg (i + j) k
  | [], i, _, j, k, e => by simp at e
  | x :: l, i, h, 0, k, e => by
    simp at e; subst e; exact h.1
  | x :: l, i, h, j + 1, k, e => by
    have := ErrAll.get h.2 j k (by simpa using e)
    rw [show i + (j + 1) = i + 1 + j by omega]; exact this
/-- a plain class -/
def ClsF (Z : Gz) (mg : Str → Option Value) (c : Nat) (k : Cl) : Prop := mg k.name = some (.ref (Z.cl c)) ∧ Ck1 Z.K (Z.cl c) (Z.fa k.init) ∧ k.init < Z.P.fns.length ∧
    (∀ p ∈ k.meths, Meth Z.K (Z.cl c) (Z.nm p.1) (Z.fa p.2) ∧ p.2 < Z.P.fns.length) ∧ ∀ f ∈ k.flds, NoAttr Z.K (Z.cl c) (Z.nm f)
def ClsAll (Z : Gz) (mg : Str → Option Value) : Nat → List Cl → Prop
  | _, [] => True
  | i, k :: r => ClsF Z mg i k ∧ ClsAll Z mg (i + 1) r
theorem ClsAll.get {Z : Gz} {mg : Str → Option Value} : ∀ {l : List Cl} {i : Nat}, ClsAll Z mg i l → ∀ (j : Nat) k, l[j]? = some k → ClsF Z mg (i + j) k
  | [], i, _, j, k, e => by simp at e
  | x :: l, i, h, 0, k, e => by
    simp at e; subst e; exact h.1
  | x :: l, i, h, j + 1, k, e => by
    have := ClsAll.get h.2 j k (by simpa using e)
    rw [show i + (j + 1) = i + 1 + j by omega]; exact this
theorem findM_mem {m g : Nat} : ∀ {l : List (Nat × Nat)}, findM m l = some g → (m, g) ∈ l
  | [], h => by simp [findM] at h
  | (a, b) :: l, h => by
    unfold findM at h
    split at h
    · rename_i e; subst e; cases h; exact List.mem_cons_self
    · exact List.mem_cons_of_mem _ (findM_mem h)
theorem has_get {α : Type} {l : List α} {i : Nat} (h : i < l.length) : ∃ j, l[i]? = some j := ⟨l[i], List.getElem?_eq_getElem h⟩
theorem txt_of {Z : Gz} {P : Program} {w : World} {mg : Str → Option Value} {base : Heap} (D : DefAll Z mg 0 Z.P.fns) (C : ClsAll Z mg 0 Z.P.cls) (E : ErrAll Z P mg 0 Z.P.ers) (hb : ∀ x ∈ blts, mg x = none)
    (hx : ∀ c e k e', Z.P.ers[c]? = some e → Z.P.ers[k]? = some e' → PySem.W.subIn Z.K (.ref (Z.ec c)) (.ref (Z.ec k)) = some (e.ups.contains k)) (hn : Z.P.nms.Nodup) : TxtG Z P w mg base := by
  refine ⟨fun f k h => by simpa using D.get f k h, hb, fun c k h => ?_, fun k e h => by simpa using (E.get k e h).ok, fun c e k e' h1 h2 => ?_, hn⟩
  · have q : ClsF Z mg c k := by simpa using C.get c k h
    exact ⟨q.1, q.2.1.cl, q.2.1.mks, has_get q.2.2.1, fun m g hm => ⟨(q.2.2.2.1 _ (findM_mem hm)).1, has_get (q.2.2.2.1 _ (findM_mem hm)).2⟩, q.2.2.2.2⟩
  · have q : ErrF Z P mg k e' := by simpa using E.get k e' h2
    obtain ⟨fi, name, qual, st, N, fl, fd, I, K1, _⟩ := q.ex
    exact PySem.W.exm_ref K1.cl.exC K1.hd K1.cl.tyC (hx c e k e' h1 h2)
end G

/-! GEnd -/
set_option maxRecDepth 100000
set_option maxHeartbeats 4000000
namespace G
open PySem PySem.Spec PyProof.Rows L2
theorem scr_of {K : PySem.W.Frag} {H : Hp} {a : Addr} {ns : List Int} (hO : Only H) (h : SqL K H a (ns.map V.int)) : Scr K H a ns := by
  rcases h with (h | h) | h
  · rcases hO a with e | ⟨o, xs, e⟩ <;> rw [h] at e <;> cases e
  · exact .inl h
  · exact .inr h
theorem walk_g {l : PySem.W.OpenLaw} {q : Program} {loose : List Str} {XP : (Str → Option Value) → Heap → Prop} {YP : World → Heap → Prop} {d : DefRec} {K : Params → PySem.W.Frag} {p : Pg} {wf n lk : Nat} (hn : l.most = some 63) (hdf : d.params.defaults = []) (hr : Room (2 * n + 1) callerA)
    (hlaw : ∀ ns : List Int, ns.length ≤ 63 → ∃ M, callF p wf n lk [.scr ns] [] = .ok (.bl true) M)
    (hY : ∀ (w : World) (h : Heap), YP w h → (K w.params).In h)
    (F : ∀ (w : World) (mg : Str → Option Value) (fa : Addr) (h : Heap), (K w.params).In h → h.Ns mainGlobals mg → mg d.name = some (.ref fa) →
      ∃ (fd : FuncData) (Z : Gz), Z.P = p ∧ Z.wf = wf ∧ Z.K = K w.params ∧ (∀ (s : Shared) (v : Value), BindsTo s fd ⟨[v], []⟩ [("script", v)]) ∧ ∀ base : Heap, (K w.params).In base → base.Ns mainGlobals mg → FnOk l.prog w (K w.params) mg base (L2.CX l.prog w) (2 * n + 1) fa fd ["script"] (spR Z n lk)) :
    PySem.W.WalkO q loose XP YP l.row.toRowW d [] (fun f vs => PySem.call f vs) := by
  refine L2.walk_of (n := 63) (k := 2 * n + 1) (x := "script") (CX := fun w => L2.CX l.prog w) (sp := fun w vs H Q E => vs.length = 1 ∧ ∀ Z : Gz, Z.P = p → Z.wf = wf → Z.K = K w.params → spR Z n lk vs H Q E) hn (by decide) hdf hr hY (fun w mg fa h KX G hm => ?_) (fun w H a ns hl hO hS => ?_) fun w H s e s' h => ?_
  · obtain ⟨fd, Z, h1, h2, h3, hb, hF⟩ := F w mg fa h KX G hm
    exact ⟨fd, hb, fun base b1 b2 => (hF base b1 b2).imp fun vs H Q E q => q.2 Z h1 h2 h3⟩
  · refine ⟨rfl, fun Z h1 h2 h3 => ?_⟩
    obtain ⟨M, e⟩ := hlaw ns hl
    refine ⟨⟨[], fun _ => False⟩, [], [.scr ns], ⟨rfl, fun n o a h => by simp at h, fun i j a h => by obtain ⟨o, h, _⟩ := h; simp at h, fun a h => h.elim, fun n a h => by obtain ⟨o, h, _⟩ := h; simp at h⟩, .cons ?_ .nil, ?_⟩
    · rw [Rep, h3]
      exact ⟨a, rfl, scr_of hO hS⟩
    · rw [h1, h2, e]
      intro al' H' v s S r
      exact rep_bl (X := Z.toGy) r
  · obtain ⟨_, _, _, _, _, _, _, _, _, _, _, _, z⟩ := h
    exact z.elim
end G

/-! the text -/
namespace K30
open PySem (Str)
open G
/-- is_whole(value): 0 value -/
def b0 : Sms := (.cons (.ret (.andV (.cons (.isi (.v 0) .int) (.cons (.notV (.isi (.v 0) .bool)) .nil)))) .nil)
def f0 : Fn := ⟨"is_whole", "is_whole", true, 1, ["value"], b0, true⟩
/-- check_most(value, most, what): 0 value 1 most 2 what -/
def b1 : Sms := (.cons (.ite (.tand (.cons (.val (.call 0 (.cons (.v 0) .nil))) (.cons (.cmp .gt (.v 0) (.v 1)) .nil))) (.cons (.rais 0 (.cons (.v 2) .nil)) .nil) .nil) .nil)
def f1 : Fn := ⟨"check_most", "check_most", true, 3, ["value", "most", "what"], b1, true⟩
/-- piece_rows(lot): 0 lot 1 row -/
def b2 : Sms := (.cons (.ret (.lc false (.n 1) (.val (.v 0)) .nil (.tup (.cons (.bi .tuple (.cons (.ix (.v 1) (.int 0)) .nil)) (.cons (.ix (.v 1) (.int 1)) .nil))))) .nil)
def f2 : Fn := ⟨"piece_rows", "piece_rows", true, 1, ["lot", "row"], b2, true⟩
/-- check_drops(lots, course): 0 lots 1 course 2 letter 3 lot 4 row 5 skill -/
def b3_1 : Sms := (.cons (.ex (.call 1 (.cons (.ix (.v 4) (.int 1)) (.cons (.int 30) (.cons (.str "bells") .nil))))) .nil)
def b3_2 : Sms := (.cons (.fo (.n 4) (.val (.v 3)) b3_1) .nil)
def b3_3 : Sms := (.cons (.ite (.tand (.cons (.cmp .eq (.sl (.v 2) .no (.so (.int 1))) (.tup (.cons (.str "hand") .nil))) (.cons (.cmp .eq (.bi .len (.cons (.v 2) .nil)) (.int 2)) .nil))) (.cons (.ex (.call 1 (.cons (.ix (.v 2) (.int 1)) (.cons (.int 8) (.cons (.str "skills") .nil))))) .nil) .nil) .nil)
def b3_4 : Sms := (.cons (.ex (.call 1 (.cons (.v 5) (.cons (.int 8) (.cons (.str "skills") .nil))))) .nil)
def b3_5 : Sms := (.cons (.fo (.n 5) (.val (.ix (.v 4) (.int 0))) b3_4) .nil)
def b3_6 : Sms := (.cons (.fo (.n 4) (.val (.v 3)) b3_5) .nil)
def b3_7 : Sms := (.cons (.ex (.call 1 (.cons (.bi .len (.cons (.v 3) .nil)) (.cons (.int 10) (.cons (.str "drops") .nil))))) .nil)
def b3_8 : Sms := (.cons (.ite (.tand (.cons (.cmp .eq (.sl (.v 2) .no (.so (.int 1))) (.tup (.cons (.str "word") .nil))) (.cons (.cmp .eq (.bi .len (.cons (.v 2) .nil)) (.int 2)) .nil))) (.cons (.ex (.call 1 (.cons (.ix (.v 2) (.int 1)) (.cons (.bin .pow (.int 10) (.int 9)) (.cons (.str "number") .nil))))) .nil) .nil) .nil)
def b3 : Sms := (.cons (.fo (.n 2) (.val (.v 1)) b3_8) (.cons (.fo (.n 3) (.val (.v 0)) b3_7) (.cons (.fo (.n 3) (.val (.v 0)) b3_6) (.cons (.fo (.n 2) (.val (.v 1)) b3_3) (.cons (.fo (.n 3) (.val (.v 0)) b3_2) (.cons (.ex (.call 1 (.cons (.bi .len (.cons (.v 1) .nil)) (.cons (.int 60) (.cons (.str "letters") .nil))))) .nil))))))
def f3 : Fn := ⟨"check_drops", "check_drops", true, 2, ["lots", "course", "letter", "lot", "row", "skill"], b3, true⟩
/-- check_pieces(lots): 0 lots 1 place 2 lot 3 skills 4 due 5 turn -/
def b4_1 : Sms := (.cons (.ite (.cmp .ge (.ix (.v 3) (.bin .sub (.v 5) (.int 1))) (.ix (.v 3) (.v 5))) (.cons (.rais 1 (.cons (.v 1) .nil)) .nil) .nil) .nil)
def b4_2 : Sms := (.cons (.ite (.tor (.cons (.cmp .eq (.v 3) (.tup .nil)) (.cons (.cmp .lt (.ix (.v 3) (.int 0)) (.int 1)) (.cons (.cmp .lt (.v 4) (.int 1)) .nil)))) (.cons (.rais 1 (.cons (.v 1) .nil)) .nil) .nil) (.cons (.fo (.n 5) (.rng2 (.int 1) (.bi .len (.cons (.v 3) .nil))) b4_1) (.cons (.asg (.n 1) (.bin .add (.v 1) (.int 1))) .nil)))
def b4_3 : Sms := (.cons (.fo (.t [3, 4]) (.val (.v 2)) b4_2) .nil)
def b4 : Sms := (.cons (.asg (.n 1) (.int 0)) (.cons (.fo (.n 2) (.val (.v 0)) b4_3) .nil))
def f4 : Fn := ⟨"check_pieces", "check_pieces", true, 1, ["lots", "place", "lot", "skills", "due", "turn"], b4, true⟩
/-- is_letter(letter): 0 letter -/
def b5 : Sms := (.cons (.ite (.cmp .eq (.v 0) (.tup (.cons (.str "bell") .nil))) (.cons (.ret (.bl true)) .nil) .nil) (.cons (.ite (.tor (.cons (.cmp .ne (.bi .len (.cons (.v 0) .nil)) (.int 2)) (.cons (.tnot (.val (.call 0 (.cons (.ix (.v 0) (.int 1)) .nil)))) .nil))) (.cons (.ret (.bl false)) .nil) .nil) (.cons (.ret (.orV (.cons (.andV (.cons (.cmp .eq (.ix (.v 0) (.int 0)) (.str "hand")) (.cons (.cmp .ge (.ix (.v 0) (.int 1)) (.int 1)) .nil))) (.cons (.andV (.cons (.cmp .eq (.ix (.v 0) (.int 0)) (.str "word")) (.cons (.cmp .ge (.ix (.v 0) (.int 1)) (.int 0)) .nil))) .nil)))) .nil)))
def f5 : Fn := ⟨"is_letter", "is_letter", true, 1, ["letter"], b5, true⟩
/-- check_letters(course): 0 course 1 place -/
def b6_1 : Sms := (.cons (.ite (.tnot (.val (.call 5 (.cons (.ix (.v 0) (.v 1)) .nil)))) (.cons (.rais 2 (.cons (.v 1) .nil)) .nil) .nil) .nil)
def b6 : Sms := (.cons (.fo (.n 1) (.rng1 (.bi .len (.cons (.v 0) .nil))) b6_1) .nil)
def f6 : Fn := ⟨"check_letters", "check_letters", true, 1, ["course", "place"], b6, true⟩
/-- fits_on(one, other): 0 one 1 other 2 skill -/
def b7_1 : Sms := (.cons (.ite (.cmp .nin (.v 2) (.ix (.v 1) (.int 0))) (.cons (.ret (.bl false)) .nil) .nil) .nil)
def b7 : Sms := (.cons (.fo (.n 2) (.val (.ix (.v 0) (.int 0))) b7_1) (.cons (.ret (.cmp .le (.ix (.v 0) (.int 1)) (.ix (.v 1) (.int 1)))) .nil))
def f7 : Fn := ⟨"fits_on", "fits_on", true, 2, ["one", "other", "skill"], b7, true⟩
/-- place_left(options, left, taken, seen): 0 options 1 left 2 taken 3 seen 4 right -/
def b8_1 : Sms := (.cons (.ite (.cmp .nin (.v 4) (.v 3)) (.cons (.asgI (.v 3) (.v 4) (.bl true)) (.cons (.ite (.tor (.cons (.cmp .nin (.v 4) (.v 2)) (.cons (.val (.call 8 (.cons (.v 0) (.cons (.ix (.v 2) (.v 4)) (.cons (.v 2) (.cons (.v 3) .nil)))))) .nil))) (.cons (.asgI (.v 2) (.v 4) (.v 1)) (.cons (.ret (.bl true)) .nil)) .nil) .nil)) .nil) .nil)
def b8 : Sms := (.cons (.fo (.n 4) (.val (.ix (.v 0) (.v 1))) b8_1) (.cons (.ret (.bl false)) .nil))
def f8 : Fn := ⟨"place_left", "place_left", true, 4, ["options", "left", "taken", "seen", "right"], b8, true⟩
/-- pair_up(options): 0 options 1 taken 2 left 3 pairs 4 right 5 row -/
def b9_1 : Sms := (.cons (.asgI (.v 3) (.ix (.v 1) (.v 4)) (.v 4)) .nil)
def b9_2 : Sms := (.cons (.ite (.tnot (.val (.call 8 (.cons (.v 0) (.cons (.v 2) (.cons (.v 1) (.cons (.dnew false) .nil))))))) (.cons (.ret .non) .nil) .nil) .nil)
def b9 : Sms := (.cons (.asg (.n 1) (.dnew false)) (.cons (.fo (.n 2) (.rng1 (.bi .len (.cons (.v 0) .nil))) b9_2) (.cons (.asg (.n 3) (.lc true (.n 5) (.val (.v 0)) .nil (.int 0))) (.cons (.fod (.n 4) 1 b9_1) (.cons (.ret (.frz (.v 3))) .nil)))))
def f9 : Fn := ⟨"pair_up", "pair_up", true, 1, ["options", "taken", "left", "pairs", "right", "row"], b9, true⟩
/-- lacking_skill(piece, other): 0 piece 1 other 2 skill -/
def b10_1 : Sms := (.cons (.ite (.cmp .nin (.v 2) (.ix (.v 1) (.int 0))) (.cons (.ret (.v 2)) .nil) .nil) .nil)
def b10 : Sms := (.cons (.fo (.n 2) (.val (.ix (.v 0) (.int 0))) b10_1) (.cons (.ret .non) .nil))
def f10 : Fn := ⟨"lacking_skill", "lacking_skill", true, 2, ["piece", "other", "skill"], b10, true⟩
/-- hindsight_of(lot, course): 0 lot 1 course 2 rows 3 letters 4 options 5 pairs 6 skills 7 due 8 fitting 9 bells 10 place 11 letter 12 piece -/
def b11_1 : Sms := (.cons (.asg (.n 11) (.ix (.v 3) (.v 10))) (.cons (.ite (.cmp .eq (.ix (.v 11) (.int 0)) (.str "bell")) (.cons (.asg (.n 9) (.bin .add (.v 9) (.int 1))) .nil) .nil) (.cons (.ite (.tand (.cons (.cmp .eq (.ix (.v 11) (.int 0)) (.str "hand")) (.cons (.cmp .lt (.v 9) (.v 7)) (.cons (.cmp .inn (.ix (.v 11) (.int 1)) (.v 6)) .nil)))) (.cons (.ex (.bm .append (.v 8) (.cons (.v 10) .nil))) .nil) .nil) .nil)))
def b11_2 : Sms := (.cons (.asg (.n 8) (.lst true .nil)) (.cons (.asg (.n 9) (.int 0)) (.cons (.fo (.n 10) (.rng1 (.bi .len (.cons (.v 3) .nil))) b11_1) (.cons (.ex (.bm .append (.v 4) (.cons (.frz (.v 8)) .nil))) .nil))))
def b11 : Sms := (.cons (.asg (.n 2) (.call 2 (.cons (.v 0) .nil))) (.cons (.asg (.n 3) (.lc false (.n 11) (.val (.v 1)) .nil (.bi .tuple (.cons (.v 11) .nil)))) (.cons (.ex (.call 3 (.cons (.lst false (.cons (.v 2) .nil)) (.cons (.v 3) .nil)))) (.cons (.ex (.call 4 (.cons (.lst false (.cons (.v 2) .nil)) .nil))) (.cons (.ex (.call 6 (.cons (.v 3) .nil))) (.cons (.asg (.n 4) (.lst true .nil)) (.cons (.fo (.t [6, 7]) (.val (.v 2)) b11_2) (.cons (.asg (.n 5) (.call 9 (.cons (.v 4) .nil))) (.cons (.ite (.isN (.v 5)) (.cons (.ret .non) .nil) .nil) (.cons (.ret (.bi (.sorted true) (.cons (.lc false (.n 12) (.rng1 (.bi .len (.cons (.v 2) .nil))) .nil (.tup (.cons (.ix (.v 5) (.v 12)) (.cons (.v 12) .nil)))) .nil))) .nil))))))))))
def f11 : Fn := ⟨"hindsight_of", "hindsight_of", true, 2, ["lot", "course", "rows", "letters", "options", "pairs", "skills", "due", "fitting", "bells", "place", "letter", "piece"], b11, true⟩
/-- in_no_order(one, other): 0 one 1 other -/
def b12 : Sms := (.cons (.ret (.andV (.cons (.notV (.call 7 (.cons (.v 0) (.cons (.v 1) .nil)))) (.cons (.notV (.call 7 (.cons (.v 1) (.cons (.v 0) .nil)))) .nil)))) .nil)
def f12 : Fn := ⟨"in_no_order", "in_no_order", true, 2, ["one", "other"], b12, true⟩
/-- nested_fault(lot): 0 lot 1 rows 2 hand 3 i 4 j -/
def b13_1 : Sms := (.cons (.ite (.tand (.cons (.cmp .inn (.v 2) (.ix (.ix (.v 1) (.v 3)) (.int 0))) (.cons (.cmp .inn (.v 2) (.ix (.ix (.v 1) (.v 4)) (.int 0))) (.cons (.val (.call 12 (.cons (.ix (.v 1) (.v 3)) (.cons (.ix (.v 1) (.v 4)) .nil)))) .nil)))) (.cons (.ret (.tup (.cons (.v 2) (.cons (.v 3) (.cons (.v 4) .nil))))) .nil) .nil) .nil)
def b13_2 : Sms := (.cons (.fo (.n 4) (.rng2 (.bin .add (.v 3) (.int 1)) (.bi .len (.cons (.v 1) .nil))) b13_1) .nil)
def b13_3 : Sms := (.cons (.fo (.n 3) (.rng1 (.bi .len (.cons (.v 1) .nil))) b13_2) .nil)
def b13 : Sms := (.cons (.asg (.n 1) (.call 2 (.cons (.v 0) .nil))) (.cons (.ex (.call 3 (.cons (.lst false (.cons (.v 1) .nil)) (.cons (.lst false .nil) .nil)))) (.cons (.ex (.call 4 (.cons (.lst false (.cons (.v 1) .nil)) .nil))) (.cons (.fo (.n 2) (.rng2 (.int 1) (.int 9)) b13_3) (.cons (.ret .non) .nil)))))
def f13 : Fn := ⟨"nested_fault", "nested_fault", true, 1, ["lot", "rows", "hand", "i", "j"], b13, true⟩
/-- ending_course(hand, one, other): 0 hand 1 one 2 other 3 course 4 skill 5 turn -/
def b14_1 : Sms := (.cons (.ex (.bm .append (.v 3) (.cons (.tup (.cons (.str "bell") .nil)) .nil))) .nil)
def b14 : Sms := (.cons (.asg (.n 3) (.lst true (.cons (.tup (.cons (.str "hand") (.cons (.v 0) .nil))) .nil))) (.cons (.asg (.n 4) (.call 10 (.cons (.v 1) (.cons (.v 2) .nil)))) (.cons (.ite (.notN (.v 4)) (.cons (.ret (.bin .add (.v 3) (.lst false (.cons (.tup (.cons (.str "hand") (.cons (.v 4) .nil))) .nil)))) .nil) .nil) (.cons (.fo (.n 5) (.rng1 (.ix (.v 2) (.int 1))) b14_1) (.cons (.ret (.bin .add (.v 3) (.lst false (.cons (.tup (.cons (.str "hand") (.cons (.ix (.ix (.v 1) (.int 0)) (.int 0)) .nil))) .nil)))) .nil)))))
def f14 : Fn := ⟨"ending_course", "ending_course", true, 3, ["hand", "one", "other", "course", "skill", "turn"], b14, true⟩
/-- two_courses(lot, hand, i, j): 0 lot 1 hand 2 i 3 j 4 rows 5 place -/
def b15_1 : Sms := (.cons (.ite (.tor (.cons (.tnot (.chn .le .lt (.int 0) (.v 5) (.bi .len (.cons (.v 4) .nil)))) (.cons (.cmp .nin (.v 1) (.ix (.ix (.v 4) (.v 5)) (.int 0))) .nil))) (.cons (.rais 1 (.cons (.v 5) .nil)) .nil) .nil) .nil)
def b15 : Sms := (.cons (.asg (.n 4) (.call 2 (.cons (.v 0) .nil))) (.cons (.ex (.call 3 (.cons (.lst false (.cons (.v 4) .nil)) (.cons (.lst false .nil) .nil)))) (.cons (.ex (.call 4 (.cons (.lst false (.cons (.v 4) .nil)) .nil))) (.cons (.fo (.n 5) (.val (.lst false (.cons (.v 2) (.cons (.v 3) .nil)))) b15_1) (.cons (.ite (.tnot (.val (.call 12 (.cons (.ix (.v 4) (.v 2)) (.cons (.ix (.v 4) (.v 3)) .nil))))) (.cons (.rais 1 (.cons (.v 3) .nil)) .nil) .nil) (.cons (.ret (.lst false (.cons (.call 14 (.cons (.v 1) (.cons (.ix (.v 4) (.v 2)) (.cons (.ix (.v 4) (.v 3)) .nil)))) (.cons (.call 14 (.cons (.v 1) (.cons (.ix (.v 4) (.v 3)) (.cons (.ix (.v 4) (.v 2)) .nil)))) .nil)))) .nil))))))
def f15 : Fn := ⟨"two_courses", "two_courses", true, 4, ["lot", "hand", "i", "j", "rows", "place"], b15, true⟩
/-- _law_purse(script, at): 0 script 1 at 2 cell 3 size 4 one -/
def b16 : Sms := (.cons (.asg (.n 2) (.ife (.cmp .lt (.v 1) (.bi .len (.cons (.v 0) .nil))) (.bi .int (.cons (.ix (.v 0) (.v 1)) .nil)) (.bin .mul (.int 31) (.bi .sum (.cons (.lc false (.n 4) (.val (.sl (.v 0) .no (.so (.int 4)))) .nil (.bi .int (.cons (.v 4) .nil))) .nil))))) (.cons (.asg (.n 3) (.bin .add (.bin .mul (.int 2) (.bi .abs (.cons (.v 2) .nil))) (.ife (.cmp .lt (.v 2) (.int 0)) (.int 1) (.int 0)))) (.cons (.ret (.lst true (.cons (.ife (.cmp .ge (.v 3) (.bin .pow (.int 10) (.int 18))) (.v 3) (.int 0)) (.cons (.bin .mod (.bi .int (.cons (.bin .add (.bin .add (.v 3) (.bin .mul (.v 1) (.int 104729))) (.int 12345)) .nil)) (.int 2147483629)) (.cons (.v 1) .nil))))) .nil)))
def f16 : Fn := ⟨"_law_purse", "_law_purse", true, 2, ["script", "at", "cell", "size", "one"], b16, true⟩
/-- _law_draw(purse, many): 0 purse 1 many 2 found -/
def b17 : Sms := (.cons (.ite (.cmp .gt (.ix (.v 0) (.int 0)) (.int 0)) (.cons (.asg (.n 2) (.bin .mod (.bi .int (.cons (.ix (.v 0) (.int 0)) .nil)) (.v 1))) (.cons (.asgI (.v 0) (.int 0) (.bin .fdiv (.ix (.v 0) (.int 0)) (.v 1))) (.cons (.ret (.v 2)) .nil))) .nil) (.cons (.augI (.v 0) (.int 2) .add (.int 1)) (.cons (.asgI (.v 0) (.int 1) (.bin .mod (.bi .int (.cons (.bin .add (.bin .mul (.ix (.v 0) (.int 1)) (.int 48271)) (.bin .mul (.ix (.v 0) (.int 2)) (.int 69621))) .nil)) (.int 2147483647))) (.cons (.ret (.bin .mod (.bin .fdiv (.bin .mod (.bi .int (.cons (.bin .add (.bin .mul (.ix (.v 0) (.int 1)) (.int 16807)) (.bin .mul (.ix (.v 0) (.int 2)) (.int 7919))) .nil)) (.int 2147483629)) (.int 8)) (.v 1))) .nil))))
def f17 : Fn := ⟨"_law_draw", "_law_draw", true, 2, ["purse", "many", "found"], b17, true⟩
/-- _law_mix(purse, things): 0 purse 1 things 2 left 3 mixed 4 turn -/
def b18_1 : Sms := (.cons (.ex (.bm .append (.v 3) (.cons (.bm .popAt (.v 2) (.cons (.call 17 (.cons (.v 0) (.cons (.bi .len (.cons (.v 2) .nil)) .nil))) .nil)) .nil))) .nil)
def b18 : Sms := (.cons (.asg (.n 2) (.bi (.list true) (.cons (.v 1) .nil))) (.cons (.asg (.n 3) (.lst true .nil)) (.cons (.fo (.n 4) (.rng1 (.bi .len (.cons (.v 1) .nil))) b18_1) (.cons (.ret (.frz (.v 3))) .nil))))
def f18 : Fn := ⟨"_law_mix", "_law_mix", true, 2, ["purse", "things", "left", "mixed", "turn"], b18, true⟩
/-- _law_fits(one, other): 0 one 1 other 2 skill -/
def b19 : Sms := (.cons (.ite (.cmp .ne (.lc false (.n 2) (.val (.ix (.v 0) (.int 0))) (.cons (.cmp .nin (.v 2) (.ix (.v 1) (.int 0))) .nil) (.v 2)) (.lst false .nil)) (.cons (.ret (.bl false)) .nil) .nil) (.cons (.ret (.cmp .le (.ix (.v 0) (.int 1)) (.ix (.v 1) (.int 1)))) .nil))
def f19 : Fn := ⟨"_law_fits", "_law_fits", true, 2, ["one", "other", "skill"], b19, true⟩
/-- _law_lot(purse, pool, most, many): 0 purse 1 pool 2 most 3 many 4 lot 5 turn 6 skills -/
def b20_1 : Sms := (.cons (.asg (.n 6) (.bi (.sorted false) (.cons (.sl (.call 18 (.cons (.v 0) (.cons (.v 1) .nil))) .no (.so (.bin .add (.int 1) (.call 17 (.cons (.v 0) (.cons (.bi .min2 (.cons (.int 3) (.cons (.bi .len (.cons (.v 1) .nil)) .nil))) .nil)))))) .nil))) (.cons (.ex (.bm .append (.v 4) (.cons (.tup (.cons (.bi .tuple (.cons (.v 6) .nil)) (.cons (.bin .add (.int 1) (.call 17 (.cons (.v 0) (.cons (.v 2) .nil)))) .nil))) .nil))) .nil))
def b20 : Sms := (.cons (.asg (.n 4) (.lst true .nil)) (.cons (.fo (.n 5) (.rng1 (.v 3)) b20_1) (.cons (.ret (.frz (.v 4))) .nil)))
def f20 : Fn := ⟨"_law_lot", "_law_lot", true, 4, ["purse", "pool", "most", "many", "lot", "turn", "skills"], b20, true⟩
/-- _law_ended(purse, lot, bells): 0 purse 1 lot 2 bells 3 course 4 bell 5 part 6 letters 7 turn 8 skills 9 due 10 piece -/
def b21_1 : Sms := (.cons (.ex (.bm .append (.v 6) (.cons (.ife (.cmp .eq (.call 17 (.cons (.v 0) (.cons (.int 2) .nil))) (.int 0)) (.tup (.cons (.str "hand") (.cons (.bin .add (.int 1) (.call 17 (.cons (.v 0) (.cons (.int 8) .nil)))) .nil))) (.tup (.cons (.str "word") (.cons (.call 17 (.cons (.v 0) (.cons (.int 9) .nil))) .nil)))) .nil))) .nil)
def b21_2 : Sms := (.cons (.ite (.tor (.cons (.cmp .eq (.v 9) (.bin .add (.v 4) (.int 1))) (.cons (.tand (.cons (.cmp .gt (.v 9) (.v 2)) (.cons (.cmp .eq (.v 4) (.v 2)) .nil))) .nil))) (.cons (.ex (.bm .append (.v 5) (.cons (.tup (.cons (.v 8) (.cons (.v 9) .nil))) .nil))) .nil) .nil) .nil)
def b21_3 : Sms := (.cons (.asg (.n 5) (.lst true .nil)) (.cons (.fo (.t [8, 9]) (.val (.v 1)) b21_2) (.cons (.asg (.n 6) (.lc true (.n 10) (.val (.v 5)) .nil (.tup (.cons (.str "hand") (.cons (.ix (.ix (.v 10) (.int 0)) (.call 17 (.cons (.v 0) (.cons (.bi .len (.cons (.ix (.v 10) (.int 0)) .nil)) .nil)))) .nil))))) (.cons (.fo (.n 7) (.rng1 (.call 17 (.cons (.v 0) (.cons (.int 3) .nil)))) b21_1) (.cons (.asg (.n 3) (.bin .add (.bin .add (.v 3) (.call 18 (.cons (.v 0) (.cons (.v 6) .nil)))) (.ife (.cmp .lt (.v 4) (.v 2)) (.lst false (.cons (.tup (.cons (.str "bell") .nil)) .nil)) (.lst false .nil)))) .nil)))))
def b21 : Sms := (.cons (.asg (.n 3) (.lst false .nil)) (.cons (.fo (.n 4) (.rng1 (.bin .add (.v 2) (.int 1))) b21_3) (.cons (.ret (.v 3)) .nil)))
def f21 : Fn := ⟨"_law_ended", "_law_ended", true, 3, ["purse", "lot", "bells", "course", "bell", "part", "letters", "turn", "skills", "due", "piece"], b21, true⟩
/-- _law_drawn_course(purse, pool): 0 purse 1 pool 2 course 3 turn 4 kind -/
def b22_1 : Sms := (.cons (.asg (.n 4) (.call 17 (.cons (.v 0) (.cons (.int 6) .nil)))) (.cons (.ite (.cmp .lt (.v 4) (.int 4)) (.cons (.ex (.bm .append (.v 2) (.cons (.tup (.cons (.str "hand") (.cons (.ix (.v 1) (.call 17 (.cons (.v 0) (.cons (.bi .len (.cons (.v 1) .nil)) .nil)))) .nil))) .nil))) .nil) (.cons (.ex (.bm .append (.v 2) (.cons (.ife (.cmp .eq (.v 4) (.int 4)) (.tup (.cons (.str "bell") .nil)) (.tup (.cons (.str "word") (.cons (.call 17 (.cons (.v 0) (.cons (.bin .add (.bin .pow (.int 10) (.int 9)) (.int 1)) .nil))) .nil)))) .nil))) .nil)) .nil))
def b22 : Sms := (.cons (.asg (.n 2) (.lst true .nil)) (.cons (.fo (.n 3) (.rng1 (.call 17 (.cons (.v 0) (.cons (.int 12) .nil)))) b22_1) (.cons (.ret (.frz (.v 2))) .nil)))
def f22 : Fn := ⟨"_law_drawn_course", "_law_drawn_course", true, 2, ["purse", "pool", "course", "turn", "kind"], b22, true⟩
/-- _law_able(lot, course): 0 lot 1 course 2 able 3 skills 4 due 5 bells 6 places 7 at -/
def b23_1 : Sms := (.cons (.ite (.cmp .eq (.ix (.v 1) (.v 7)) (.tup (.cons (.str "bell") .nil))) (.cons (.aug 5 .add (.int 1)) .nil) .nil) (.cons (.ite (.tand (.cons (.cmp .eq (.ix (.ix (.v 1) (.v 7)) (.int 0)) (.str "hand")) (.cons (.cmp .lt (.v 5) (.v 4)) (.cons (.cmp .inn (.ix (.ix (.v 1) (.v 7)) (.int 1)) (.v 3)) .nil)))) (.cons (.ex (.bm .append (.v 6) (.cons (.v 7) .nil))) .nil) .nil) .nil))
def b23_2 : Sms := (.cons (.asg (.n 5) (.int 0)) (.cons (.asg (.n 6) (.lst true .nil)) (.cons (.fo (.n 7) (.rng1 (.bi .len (.cons (.v 1) .nil))) b23_1) (.cons (.ex (.bm .append (.v 2) (.cons (.frz (.v 6)) .nil))) .nil))))
def b23 : Sms := (.cons (.asg (.n 2) (.lst true .nil)) (.cons (.fo (.t [3, 4]) (.val (.v 0)) b23_2) (.cons (.ret (.frz (.v 2))) .nil)))
def f23 : Fn := ⟨"_law_able", "_law_able", true, 2, ["lot", "course", "able", "skills", "due", "bells", "places", "at"], b23, true⟩
/-- _law_dealt(able, used): 0 able 1 used 2 place -/
def b24_1 : Sms := (.cons (.ite (.tand (.cons (.cmp .nin (.v 2) (.v 1)) (.cons (.val (.call 24 (.cons (.v 0) (.cons (.bin .add (.v 1) (.lst false (.cons (.v 2) .nil))) .nil)))) .nil))) (.cons (.ret (.bl true)) .nil) .nil) .nil)
def b24 : Sms := (.cons (.ite (.cmp .eq (.bi .len (.cons (.v 1) .nil)) (.bi .len (.cons (.v 0) .nil))) (.cons (.ret (.bl true)) .nil) .nil) (.cons (.fo (.n 2) (.val (.ix (.v 0) (.bi .len (.cons (.v 1) .nil)))) b24_1) (.cons (.ret (.bl false)) .nil)))
def f24 : Fn := ⟨"_law_dealt", "_law_dealt", true, 2, ["able", "used", "place"], b24, true⟩
/-- _law_told(lot, course): 0 lot 1 course 2 e 3 told -/
def b25 : Sms := (.cons (.tr (.cons (.asg (.n 3) (.call 11 (.cons (.v 0) (.cons (.v 1) .nil)))) .nil) [(1, 2, (.tup (.cons (.str "bad piece") (.cons (.fld 0) .nil)))), (2, 2, (.tup (.cons (.str "bad letter") (.cons (.fld 0) .nil)))), (0, 2, (.tup (.cons (.str "many") (.cons (.fld 1) .nil))))]) (.cons (.ret (.v 3)) .nil))
def f25 : Fn := ⟨"_law_told", "_law_told", true, 2, ["lot", "course", "e", "told"], b25, true⟩
/-- _law_right(lot, course): 0 lot 1 course 2 able 3 handed 4 turn 5 told 6 row 7 places 8 at -/
def b26_1 : Sms := (.cons (.ite (.tor (.cons (.tnot (.val (.isi (.v 6) .tuple))) (.cons (.cmp .ne (.bi .len (.cons (.v 6) .nil)) (.int 2)) (.cons (.val (.isi (.ix (.v 6) (.int 0)) .bool)) (.cons (.cmp .nin (.ix (.v 6) (.int 0)) (.ix (.v 2) (.ix (.v 6) (.int 1)))) .nil))))) (.cons (.ret (.bl false)) .nil) .nil) .nil)
def b26_2 : Sms := (.cons (.asg (.n 5) (.call 25 (.cons (.v 0) (.cons (.v 3) .nil)))) (.cons (.ite (.tor (.cons (.cmp .ne (.v 3) (.v 1)) (.cons (.cmp .ne (.isN (.v 5)) (.notV (.call 24 (.cons (.v 2) (.cons (.lst false .nil) .nil))))) .nil))) (.cons (.ret (.bl false)) .nil) .nil) (.cons (.ite (.notN (.v 5)) (.cons (.ite (.tor (.cons (.tnot (.val (.isi (.v 5) .list))) (.cons (.cmp .ne (.bi .len (.cons (.v 5) .nil)) (.bi .len (.cons (.v 0) .nil))) (.cons (.cmp .ne (.bi (.sorted false) (.cons (.lc false (.n 6) (.val (.v 5)) .nil (.ix (.v 6) (.int 1))) .nil)) (.lrg false (.bi .len (.cons (.v 0) .nil)))) .nil)))) (.cons (.ret (.bl false)) .nil) .nil) (.cons (.fo (.n 6) (.val (.v 5)) b26_1) (.cons (.asg (.n 7) (.lc false (.n 6) (.val (.v 5)) .nil (.ix (.v 6) (.int 0)))) (.cons (.ite (.tor (.cons (.cmp .ne (.v 7) (.bi (.sorted false) (.cons (.v 7) .nil))) (.cons (.cmp .gt (.bi .len (.cons (.lc false (.n 8) (.rng2 (.int 1) (.bi .len (.cons (.v 7) .nil))) (.cons (.cmp .eq (.ix (.v 7) (.bin .sub (.v 8) (.int 1))) (.ix (.v 7) (.v 8))) .nil) (.v 8)) .nil)) (.int 0)) .nil))) (.cons (.ret (.bl false)) .nil) .nil) (.cons (.ex (.bm .append (.v 5) (.cons (.tup (.cons (.int 0) (.cons (.int 0) .nil))) .nil))) .nil))))) .nil) .nil)))
def b26 : Sms := (.cons (.asg (.n 2) (.call 23 (.cons (.v 0) (.cons (.v 1) .nil)))) (.cons (.asg (.n 3) (.bi (.list false) (.cons (.v 1) .nil))) (.cons (.fo (.n 4) (.rng1 (.int 2)) b26_2) (.cons (.ret (.bl true)) .nil))))
def f26 : Fn := ⟨"_law_right", "_law_right", true, 2, ["lot", "course", "able", "handed", "turn", "told", "row", "places", "at"], b26, true⟩
/-- _law_fault(lot): 0 lot 1 hand 2 i 3 j -/
def b27_1 : Sms := (.cons (.ite (.tand (.cons (.cmp .inn (.v 1) (.ix (.ix (.v 0) (.v 2)) (.int 0))) (.cons (.cmp .inn (.v 1) (.ix (.ix (.v 0) (.v 3)) (.int 0))) (.cons (.tnot (.val (.call 19 (.cons (.ix (.v 0) (.v 2)) (.cons (.ix (.v 0) (.v 3)) .nil))))) (.cons (.tnot (.val (.call 19 (.cons (.ix (.v 0) (.v 3)) (.cons (.ix (.v 0) (.v 2)) .nil))))) .nil))))) (.cons (.ret (.tup (.cons (.v 1) (.cons (.v 2) (.cons (.v 3) .nil))))) .nil) .nil) .nil)
def b27_2 : Sms := (.cons (.fo (.n 3) (.rng2 (.bin .add (.v 2) (.int 1)) (.bi .len (.cons (.v 0) .nil))) b27_1) .nil)
def b27_3 : Sms := (.cons (.fo (.n 2) (.rng1 (.bi .len (.cons (.v 0) .nil))) b27_2) .nil)
def b27 : Sms := (.cons (.fo (.n 1) (.rng2 (.int 1) (.int 9)) b27_3) (.cons (.ret .non) .nil))
def f27 : Fn := ⟨"_law_fault", "_law_fault", true, 1, ["lot", "hand", "i", "j"], b27, true⟩
/-- _law_one_course(hand, one, other): 0 hand 1 one 2 other 3 lacking 4 skill -/
def b28 : Sms := (.cons (.asg (.n 3) (.lc false (.n 4) (.val (.ix (.v 1) (.int 0))) (.cons (.cmp .nin (.v 4) (.ix (.v 2) (.int 0))) .nil) (.v 4))) (.cons (.ite (.cmp .ne (.v 3) (.lst false .nil)) (.cons (.ret (.lst false (.cons (.tup (.cons (.str "hand") (.cons (.v 0) .nil))) (.cons (.tup (.cons (.str "hand") (.cons (.ix (.v 3) (.int 0)) .nil))) .nil)))) .nil) .nil) (.cons (.ret (.bin .add (.bin .add (.lst false (.cons (.tup (.cons (.str "hand") (.cons (.v 0) .nil))) .nil)) (.bin .mul (.lst false (.cons (.tup (.cons (.str "bell") .nil)) .nil)) (.ix (.v 2) (.int 1)))) (.lst false (.cons (.tup (.cons (.str "hand") (.cons (.ix (.ix (.v 1) (.int 0)) (.int 0)) .nil))) .nil)))) .nil)))
def f28 : Fn := ⟨"_law_one_course", "_law_one_course", true, 3, ["hand", "one", "other", "lacking", "skill"], b28, true⟩
/-- _law_two_told(lot, hand, i, j): 0 lot 1 hand 2 i 3 j 4 e 5 told -/
def b29 : Sms := (.cons (.tr (.cons (.asg (.n 5) (.call 15 (.cons (.v 0) (.cons (.v 1) (.cons (.v 2) (.cons (.v 3) .nil)))))) .nil) [(1, 4, (.tup (.cons (.str "bad piece") (.cons (.fld 0) .nil)))), (0, 4, (.tup (.cons (.str "many") (.cons (.fld 1) .nil))))]) (.cons (.ret (.v 5)) .nil))
def f29 : Fn := ⟨"_law_two_told", "_law_two_told", true, 4, ["lot", "hand", "i", "j", "e", "told"], b29, true⟩
/-- _law_nested_right(lot, must): 0 lot 1 must 2 fault 3 told 4 first 5 second 6 pieces 7 hand 8 i 9 j -/
def b30 : Sms := (.cons (.asg (.n 2) (.call 27 (.cons (.v 0) .nil))) (.cons (.asg (.n 3) (.call 13 (.cons (.v 0) .nil))) (.cons (.ite (.tor (.cons (.cmp .ne (.v 3) (.v 2)) (.cons (.tand (.cons (.val (.v 1)) (.cons (.isN (.v 2)) .nil))) (.cons (.tand (.cons (.notN (.v 2)) (.cons (.tnot (.val (.isi (.v 3) .tuple))) .nil))) .nil)))) (.cons (.ret (.bl false)) .nil) .nil) (.cons (.ite (.isN (.v 2)) (.cons (.ret (.bl true)) .nil) .nil) (.cons (.asg (.t [7, 8, 9]) (.v 2)) (.cons (.asg (.n 4) (.call 28 (.cons (.v 7) (.cons (.ix (.v 0) (.v 8)) (.cons (.ix (.v 0) (.v 9)) .nil))))) (.cons (.asg (.n 5) (.call 28 (.cons (.v 7) (.cons (.ix (.v 0) (.v 9)) (.cons (.ix (.v 0) (.v 8)) .nil))))) (.cons (.ite (.tor (.cons (.cmp .ne (.call 29 (.cons (.v 0) (.cons (.v 7) (.cons (.v 8) (.cons (.v 9) .nil))))) (.lst false (.cons (.v 4) (.cons (.v 5) .nil)))) (.cons (.cmp .ne (.call 29 (.cons (.v 0) (.cons (.v 7) (.cons (.v 9) (.cons (.v 8) .nil))))) (.lst false (.cons (.v 5) (.cons (.v 4) .nil)))) .nil))) (.cons (.ret (.bl false)) .nil) .nil) (.cons (.asg (.n 6) (.lst false (.cons (.ix (.v 0) (.v 8)) (.cons (.ix (.v 0) (.v 9)) .nil)))) (.cons (.ret (.andV (.cons (.call 26 (.cons (.v 6) (.cons (.v 4) .nil))) (.cons (.call 26 (.cons (.v 6) (.cons (.v 5) .nil))) (.cons (.notN (.call 25 (.cons (.v 6) (.cons (.v 4) .nil)))) .nil))))) .nil))))))))))
def f30 : Fn := ⟨"_law_nested_right", "_law_nested_right", true, 2, ["lot", "must", "fault", "told", "first", "second", "pieces", "hand", "i", "j"], b30, true⟩
/-- _law_pair(purse, pool): 0 purse 1 pool 2 skills 3 due -/
def b31 : Sms := (.cons (.asg (.n 2) (.call 18 (.cons (.v 0) (.cons (.v 1) .nil)))) (.cons (.ite (.cmp .eq (.call 17 (.cons (.v 0) (.cons (.int 2) .nil))) (.int 0)) (.cons (.ret (.lst false (.cons (.tup (.cons (.bi .tuple (.cons (.bi (.sorted false) (.cons (.sl (.v 2) .no (.so (.int 2))) .nil)) .nil)) (.cons (.bin .add (.int 1) (.call 17 (.cons (.v 0) (.cons (.int 9) .nil)))) .nil))) (.cons (.tup (.cons (.bi .tuple (.cons (.bi (.sorted false) (.cons (.sl (.v 2) (.so (.int 1)) (.so (.int 3))) .nil)) .nil)) (.cons (.bin .add (.int 1) (.call 17 (.cons (.v 0) (.cons (.int 30) .nil)))) .nil))) .nil)))) .nil) .nil) (.cons (.asg (.n 3) (.bin .add (.int 1) (.call 17 (.cons (.v 0) (.cons (.int 29) .nil))))) (.cons (.ret (.lst false (.cons (.tup (.cons (.bi .tuple (.cons (.bi (.sorted false) (.cons (.sl (.v 2) .no (.so (.int 1))) .nil)) .nil)) (.cons (.bin .add (.bin .add (.v 3) (.int 1)) (.call 17 (.cons (.v 0) (.cons (.bin .sub (.int 30) (.v 3)) .nil)))) .nil))) (.cons (.tup (.cons (.bi .tuple (.cons (.bi (.sorted false) (.cons (.sl (.v 2) .no (.so (.int 2))) .nil)) .nil)) (.cons (.v 3) .nil))) .nil)))) .nil))))
def f31 : Fn := ⟨"_law_pair", "_law_pair", true, 2, ["purse", "pool", "skills", "due"], b31, true⟩
/-- _law_chain(purse, pool, many): 0 purse 1 pool 2 many 3 lot 4 skills 5 due 6 turn 7 skill -/
def b32_1 : Sms := (.cons (.ite (.cmp .eq (.call 17 (.cons (.v 0) (.cons (.int 2) .nil))) (.int 0)) (.cons (.asg (.n 4) (.bin .add (.v 4) (.sl (.lc false (.n 7) (.val (.v 1)) (.cons (.cmp .nin (.v 7) (.v 4)) .nil) (.v 7)) .no (.so (.int 1))))) .nil) .nil) (.cons (.asg (.n 5) (.bi .min2 (.cons (.int 30) (.cons (.bin .add (.v 5) (.call 17 (.cons (.v 0) (.cons (.int 3) .nil)))) .nil)))) (.cons (.ex (.bm .append (.v 3) (.cons (.tup (.cons (.bi .tuple (.cons (.bi (.sorted false) (.cons (.v 4) .nil)) .nil)) (.cons (.v 5) .nil))) .nil))) .nil)))
def b32 : Sms := (.cons (.asg (.n 3) (.lst true .nil)) (.cons (.asg (.n 4) (.lst false (.cons (.ix (.v 1) (.int 0)) .nil))) (.cons (.asg (.n 5) (.int 1)) (.cons (.fo (.n 6) (.rng1 (.v 2)) b32_1) (.cons (.ret (.call 18 (.cons (.v 0) (.cons (.v 3) .nil)))) .nil)))))
def f32 : Fn := ⟨"_law_chain", "_law_chain", true, 3, ["purse", "pool", "many", "lot", "skills", "due", "turn", "skill"], b32, true⟩
/-- _law_refused(purse, lot, course): 0 purse 1 lot 2 course 3 at 4 wrongs 5 wrong 6 spoilt 7 bad 8 two -/
def b33 : Sms := (.cons (.asg (.n 3) (.call 17 (.cons (.v 0) (.cons (.bin .add (.bi .len (.cons (.v 2) .nil)) (.int 1)) .nil)))) (.cons (.asg (.n 4) (.lst false (.cons (.tup (.cons (.str "hand") .nil)) (.cons (.tup (.cons (.str "hand") (.cons (.int 0) .nil))) (.cons (.tup (.cons (.str "hand") (.cons (.neg (.int 1)) .nil))) (.cons (.tup (.cons (.str "hand") (.cons (.bl true) .nil))) (.cons (.tup (.cons (.str "bell") (.cons (.int 1) .nil))) (.cons (.tup (.cons (.str "word") (.cons (.neg (.int 1)) .nil))) (.cons (.tup (.cons (.str "word") .nil)) (.cons (.tup (.cons (.str "bells") .nil)) (.cons (.tup (.cons (.str "strike") .nil)) .nil))))))))))) (.cons (.asg (.n 5) (.ix (.v 4) (.call 17 (.cons (.v 0) (.cons (.bi .len (.cons (.v 4) .nil)) .nil))))) (.cons (.asg (.n 6) (.bin .add (.bin .add (.sl (.v 2) .no (.so (.v 3))) (.lst false (.cons (.v 5) .nil))) (.sl (.v 2) (.so (.v 3)) .no))) (.cons (.ite (.tor (.cons (.cmp .ne (.call 25 (.cons (.v 1) (.cons (.v 6) .nil))) (.tup (.cons (.str "bad letter") (.cons (.v 3) .nil)))) (.cons (.cmp .ne (.call 25 (.cons (.v 1) (.cons (.bin .add (.v 6) (.lst false (.cons (.tup (.cons (.str "hand") (.cons (.int 0) .nil))) .nil))) .nil))) (.tup (.cons (.str "bad letter") (.cons (.v 3) .nil)))) .nil))) (.cons (.ret (.bl false)) .nil) .nil) (.cons (.asg (.n 7) (.bin .add (.v 1) (.lst false (.cons (.tup (.cons (.tup .nil) (.cons (.int 1) .nil))) .nil)))) (.cons (.ite (.tor (.cons (.cmp .ne (.call 25 (.cons (.v 7) (.cons (.v 6) .nil))) (.tup (.cons (.str "bad piece") (.cons (.bi .len (.cons (.v 1) .nil)) .nil)))) (.cons (.cmp .ne (.call 29 (.cons (.v 7) (.cons (.int 1) (.cons (.int 9) (.cons (.int 9) .nil))))) (.tup (.cons (.str "bad piece") (.cons (.bi .len (.cons (.v 1) .nil)) .nil)))) .nil))) (.cons (.ret (.bl false)) .nil) .nil) (.cons (.ite (.tor (.cons (.cmp .ne (.call 25 (.cons (.v 7) (.cons (.bin .mul (.lst false (.cons (.tup (.cons (.str "bell") .nil)) .nil)) (.int 61)) .nil))) (.tup (.cons (.str "many") (.cons (.str "letters") .nil)))) (.cons (.cmp .ne (.call 25 (.cons (.v 1) (.cons (.bin .mul (.lst false (.cons (.tup (.cons (.str "bell") .nil)) .nil)) (.int 61)) .nil))) (.tup (.cons (.str "many") (.cons (.str "letters") .nil)))) .nil))) (.cons (.ret (.bl false)) .nil) .nil) (.cons (.ite (.tor (.cons (.cmp .ne (.call 25 (.cons (.v 7) (.cons (.bin .mul (.lst false (.cons (.tup (.cons (.str "hand") (.cons (.int 9) .nil))) .nil)) (.int 61)) .nil))) (.tup (.cons (.str "many") (.cons (.str "skills") .nil)))) (.cons (.cmp .ne (.call 25 (.cons (.v 1) (.cons (.bin .mul (.lst false (.cons (.tup (.cons (.str "word") (.cons (.bin .add (.bin .pow (.int 10) (.int 9)) (.int 1)) .nil))) .nil)) (.int 61)) .nil))) (.tup (.cons (.str "many") (.cons (.str "number") .nil)))) .nil))) (.cons (.ret (.bl false)) .nil) .nil) (.cons (.ite (.tnot (.val (.call 26 (.cons (.v 1) (.cons (.sl (.bin .add (.lst false (.cons (.tup (.cons (.str "hand") (.cons (.int 8) .nil))) (.cons (.tup (.cons (.str "word") (.cons (.bin .pow (.int 10) (.int 9)) .nil))) .nil))) (.bin .mul (.lst false (.cons (.tup (.cons (.str "bell") .nil)) .nil)) (.int 58))) .no (.so (.int 60))) .nil))))) (.cons (.ret (.bl false)) .nil) .nil) (.cons (.asg (.n 8) (.lst false (.cons (.tup (.cons (.tup (.cons (.int 3) .nil)) (.cons (.int 2) .nil))) (.cons (.tup (.cons (.tup (.cons (.int 3) (.cons (.int 5) .nil))) (.cons (.int 2) .nil))) (.cons (.tup (.cons (.tup (.cons (.int 2) (.cons (.int 4) .nil))) (.cons (.int 1) .nil))) (.cons (.tup (.cons (.tup (.cons (.int 4) (.cons (.int 6) .nil))) (.cons (.int 1) .nil))) .nil)))))) (.cons (.ite (.tor (.cons (.cmp .ne (.call 29 (.cons (.v 8) (.cons (.int 3) (.cons (.int 0) (.cons (.int 1) .nil))))) (.tup (.cons (.str "bad piece") (.cons (.int 1) .nil)))) (.cons (.cmp .ne (.call 29 (.cons (.v 8) (.cons (.int 3) (.cons (.int 1) (.cons (.int 0) .nil))))) (.tup (.cons (.str "bad piece") (.cons (.int 0) .nil)))) .nil))) (.cons (.ret (.bl false)) .nil) .nil) (.cons (.ite (.tor (.cons (.cmp .ne (.call 29 (.cons (.v 8) (.cons (.int 4) (.cons (.int 2) (.cons (.int 2) .nil))))) (.tup (.cons (.str "bad piece") (.cons (.int 2) .nil)))) (.cons (.cmp .ne (.call 29 (.cons (.v 8) (.cons (.int 4) (.cons (.int 1) (.cons (.int 3) .nil))))) (.tup (.cons (.str "bad piece") (.cons (.int 1) .nil)))) .nil))) (.cons (.ret (.bl false)) .nil) .nil) (.cons (.ite (.tor (.cons (.cmp .ne (.call 29 (.cons (.v 8) (.cons (.int 4) (.cons (.int 2) (.cons (.int 4) .nil))))) (.tup (.cons (.str "bad piece") (.cons (.int 4) .nil)))) (.cons (.cmp .ne (.call 29 (.cons (.v 8) (.cons (.int 4) (.cons (.neg (.int 1)) (.cons (.int 9) .nil))))) (.tup (.cons (.str "bad piece") (.cons (.neg (.int 1)) .nil)))) .nil))) (.cons (.ret (.bl false)) .nil) .nil) (.cons (.ret (.cmp .eq (.call 29 (.cons (.v 8) (.cons (.int 4) (.cons (.int 2) (.cons (.int 3) .nil))))) (.lst false (.cons (.lst false (.cons (.tup (.cons (.str "hand") (.cons (.int 4) .nil))) (.cons (.tup (.cons (.str "hand") (.cons (.int 2) .nil))) .nil))) (.cons (.lst false (.cons (.tup (.cons (.str "hand") (.cons (.int 4) .nil))) (.cons (.tup (.cons (.str "hand") (.cons (.int 6) .nil))) .nil))) .nil))))) .nil)))))))))))))))
def f33 : Fn := ⟨"_law_refused", "_law_refused", true, 3, ["purse", "lot", "course", "at", "wrongs", "wrong", "spoilt", "bad", "two"], b33, true⟩
/-- law(script): 0 script 1 purse 2 pool 3 most 4 lot 5 bells 6 full 7 hands 8 less 9 course 10 chain 11 gone 12 at -/
def b34_1 : Sms := (.cons (.ite (.tnot (.val (.call 26 (.cons (.v 4) (.cons (.v 9) .nil))))) (.cons (.ret (.bl false)) .nil) .nil) .nil)
def b34 : Sms := (.cons (.asg (.n 1) (.call 16 (.cons (.v 0) (.cons (.int 0) .nil)))) (.cons (.asg (.n 2) (.sl (.call 18 (.cons (.v 1) (.cons (.lrg2 false (.int 1) (.int 9)) .nil))) .no (.so (.ix (.lst false (.cons (.int 3) (.cons (.int 3) (.cons (.int 4) (.cons (.int 8) .nil))))) (.call 17 (.cons (.v 1) (.cons (.int 4) .nil))))))) (.cons (.asg (.n 3) (.ife (.cmp .eq (.call 17 (.cons (.v 1) (.cons (.int 8) .nil))) (.int 0)) (.int 30) (.int 4))) (.cons (.asg (.n 4) (.call 20 (.cons (.v 1) (.cons (.v 2) (.cons (.v 3) (.cons (.call 17 (.cons (.v 1) (.cons (.int 6) .nil))) .nil)))))) (.cons (.asg (.n 5) (.call 17 (.cons (.v 1) (.cons (.int 5) .nil)))) (.cons (.asg (.n 6) (.call 21 (.cons (.v 1) (.cons (.v 4) (.cons (.v 5) .nil))))) (.cons (.ite (.tnot (.val (.call 24 (.cons (.call 23 (.cons (.v 4) (.cons (.v 6) .nil))) (.cons (.lst false .nil) .nil))))) (.cons (.ret (.bl false)) .nil) .nil) (.cons (.asg (.n 7) (.lc false (.n 12) (.rng1 (.bi .len (.cons (.v 6) .nil))) (.cons (.cmp .eq (.ix (.ix (.v 6) (.v 12)) (.int 0)) (.str "hand")) .nil) (.v 12))) (.cons (.asg (.n 8) (.bi (.list false) (.cons (.v 6) .nil))) (.cons (.ite (.cmp .ne (.v 7) (.lst false .nil)) (.cons (.asg (.n 11) (.ix (.v 7) (.call 17 (.cons (.v 1) (.cons (.bi .len (.cons (.v 7) .nil)) .nil))))) (.cons (.asg (.n 8) (.bin .add (.sl (.v 6) .no (.so (.v 11))) (.sl (.v 6) (.so (.bin .add (.v 11) (.int 1))) .no))) .nil)) .nil) (.cons (.fo (.n 9) (.val (.lst false (.cons (.v 6) (.cons (.v 8) (.cons (.call 22 (.cons (.v 1) (.cons (.v 2) .nil))) .nil))))) b34_1) (.cons (.ite (.tnot (.val (.call 26 (.cons (.bin .add (.lst false (.cons (.tup (.cons (.tup (.cons (.ix (.v 2) (.int 0)) .nil)) (.cons (.int 1) .nil))) .nil)) (.v 4)) (.cons (.bin .add (.lst false (.cons (.tup (.cons (.str "bell") .nil)) .nil)) (.sl (.v 6) .no (.so (.int 40)))) .nil))))) (.cons (.ret (.bl false)) .nil) .nil) (.cons (.ite (.tor (.cons (.tnot (.val (.call 30 (.cons (.v 4) (.cons (.bl false) .nil))))) (.cons (.tnot (.val (.call 30 (.cons (.call 18 (.cons (.v 1) (.cons (.bin .add (.sl (.v 4) .no (.so (.int 3))) (.call 31 (.cons (.v 1) (.cons (.v 2) .nil)))) .nil))) (.cons (.bl true) .nil))))) .nil))) (.cons (.ret (.bl false)) .nil) .nil) (.cons (.asg (.n 10) (.call 32 (.cons (.v 1) (.cons (.v 2) (.cons (.bin .add (.int 1) (.call 17 (.cons (.v 1) (.cons (.int 5) .nil)))) .nil))))) (.cons (.ite (.tor (.cons (.notN (.call 27 (.cons (.v 10) .nil))) (.cons (.tnot (.val (.call 30 (.cons (.v 10) (.cons (.bl false) .nil))))) .nil))) (.cons (.ret (.bl false)) .nil) .nil) (.cons (.ret (.call 33 (.cons (.v 1) (.cons (.v 4) (.cons (.v 6) .nil))))) .nil))))))))))))))))
def f34 : Fn := ⟨"law", "law", true, 1, ["script", "purse", "pool", "most", "lot", "bells", "full", "hands", "less", "course", "chain", "gone", "at"], b34, true⟩
def P : Pg := ⟨[f0, f1, f2, f3, f4, f5, f6, f7, f8, f9, f10, f11, f12, f13, f14, f15, f16, f17, f18, f19, f20, f21, f22, f23, f24, f25, f26, f27, f28, f29, f30, f31, f32, f33, f34], [], [⟨"TooMany", [1], [0]⟩, ⟨"BadPiece", [0], [1]⟩, ⟨"BadLetter", [0], [2]⟩], ["place", "what"]⟩
end K30

/-! what the text says -/
namespace K30T
open PySem PySem.Spec PyProof.Rows L2 G K30
def top (i : Nat) : Stmt := PySem.Challenge.pw_whoevercomes_k30_hindsight_and_nested_sk.main.body.getD i (.Pass ⟨0, 0, 0, 0⟩)
abbrev st0 : Stmt := top 6
abbrev st1 : Stmt := top 7
abbrev st2 : Stmt := top 9
abbrev st3 : Stmt := top 10
abbrev st4 : Stmt := top 11
abbrev st5 : Stmt := top 12
abbrev st6 : Stmt := top 13
abbrev st7 : Stmt := top 14
abbrev st8 : Stmt := top 15
abbrev st9 : Stmt := top 16
abbrev st10 : Stmt := top 18
abbrev st11 : Stmt := top 20
abbrev st12 : Stmt := top 21
abbrev st13 : Stmt := top 22
abbrev st14 : Stmt := top 23
abbrev st15 : Stmt := top 24
abbrev st16 : Stmt := top 26
abbrev st17 : Stmt := top 27
abbrev st18 : Stmt := top 28
abbrev st19 : Stmt := top 29
abbrev st20 : Stmt := top 30
abbrev st21 : Stmt := top 31
abbrev st22 : Stmt := top 32
abbrev st23 : Stmt := top 33
abbrev st24 : Stmt := top 34
abbrev st25 : Stmt := top 35
abbrev st26 : Stmt := top 36
abbrev st27 : Stmt := top 37
abbrev st28 : Stmt := top 38
abbrev st29 : Stmt := top 39
abbrev st30 : Stmt := top 40
abbrev st31 : Stmt := top 41
abbrev st32 : Stmt := top 42
abbrev st33 : Stmt := top 43
abbrev st34 : Stmt := top 44
abbrev se0 : Stmt := inClass (top 2) 0
abbrev se1 : Stmt := inClass (top 3) 0
abbrev se2 : Stmt := inClass (top 4) 0
theorem ck0 : chkSs ⟨P, defScope st0, f0.names, fun _ => true⟩ f0.body (defBody st0) = true := by decide +kernel
theorem sc0 : FnScope f0.names (f0.names.take f0.np) (defScope st0) := ⟨by decide +kernel, by decide +kernel, by decide +kernel, by decide +kernel, by decide +kernel, by decide +kernel, by decide +kernel⟩
theorem ck1 : chkSs ⟨P, defScope st1, f1.names, fun _ => true⟩ f1.body (defBody st1) = true := by decide +kernel
theorem sc1 : FnScope f1.names (f1.names.take f1.np) (defScope st1) := ⟨by decide +kernel, by decide +kernel, by decide +kernel, by decide +kernel, by decide +kernel, by decide +kernel, by decide +kernel⟩
theorem ck2 : chkSs ⟨P, defScope st2, f2.names, fun _ => true⟩ f2.body (defBody st2) = true := by decide +kernel
theorem sc2 : FnScope f2.names (f2.names.take f2.np) (defScope st2) := ⟨by decide +kernel, by decide +kernel, by decide +kernel, by decide +kernel, by decide +kernel, by decide +kernel, by decide +kernel⟩
theorem ck3 : chkSs ⟨P, defScope st3, f3.names, fun _ => true⟩ f3.body (defBody st3) = true := by decide +kernel
theorem sc3 : FnScope f3.names (f3.names.take f3.np) (defScope st3) := ⟨by decide +kernel, by decide +kernel, by decide +kernel, by decide +kernel, by decide +kernel, by decide +kernel, by decide +kernel⟩
theorem ck4 : chkSs ⟨P, defScope st4, f4.names, fun _ => true⟩ f4.body (defBody st4) = true := by decide +kernel
theorem sc4 : FnScope f4.names (f4.names.take f4.np) (defScope st4) := ⟨by decide +kernel, by decide +kernel, by decide +kernel, by decide +kernel, by decide +kernel, by decide +kernel, by decide +kernel⟩
theorem ck5 : chkSs ⟨P, defScope st5, f5.names, fun _ => true⟩ f5.body (defBody st5) = true := by decide +kernel
theorem sc5 : FnScope f5.names (f5.names.take f5.np) (defScope st5) := ⟨by decide +kernel, by decide +kernel, by decide +kernel, by decide +kernel, by decide +kernel, by decide +kernel, by decide +kernel⟩
theorem ck6 : chkSs ⟨P, defScope st6, f6.names, fun _ => true⟩ f6.body (defBody st6) = true := by decide +kernel
theorem sc6 : FnScope f6.names (f6.names.take f6.np) (defScope st6) := ⟨by decide +kernel, by decide +kernel, by decide +kernel, by decide +kernel, by decide +kernel, by decide +kernel, by decide +kernel⟩
theorem ck7 : chkSs ⟨P, defScope st7, f7.names, fun _ => true⟩ f7.body (defBody st7) = true := by decide +kernel
theorem sc7 : FnScope f7.names (f7.names.take f7.np) (defScope st7) := ⟨by decide +kernel, by decide +kernel, by decide +kernel, by decide +kernel, by decide +kernel, by decide +kernel, by decide +kernel⟩
theorem ck8 : chkSs ⟨P, defScope st8, f8.names, fun _ => true⟩ f8.body (defBody st8) = true := by decide +kernel
theorem sc8 : FnScope f8.names (f8.names.take f8.np) (defScope st8) := ⟨by decide +kernel, by decide +kernel, by decide +kernel, by decide +kernel, by decide +kernel, by decide +kernel, by decide +kernel⟩
theorem ck9 : chkSs ⟨P, defScope st9, f9.names, fun _ => true⟩ f9.body (defBody st9) = true := by decide +kernel
theorem sc9 : FnScope f9.names (f9.names.take f9.np) (defScope st9) := ⟨by decide +kernel, by decide +kernel, by decide +kernel, by decide +kernel, by decide +kernel, by decide +kernel, by decide +kernel⟩
theorem ck10 : chkSs ⟨P, defScope st10, f10.names, fun _ => true⟩ f10.body (defBody st10) = true := by decide +kernel
theorem sc10 : FnScope f10.names (f10.names.take f10.np) (defScope st10) := ⟨by decide +kernel, by decide +kernel, by decide +kernel, by decide +kernel, by decide +kernel, by decide +kernel, by decide +kernel⟩
theorem ck11 : chkSs ⟨P, defScope st11, f11.names, fun _ => true⟩ f11.body (defBody st11) = true := by decide +kernel
theorem sc11 : FnScope f11.names (f11.names.take f11.np) (defScope st11) := ⟨by decide +kernel, by decide +kernel, by decide +kernel, by decide +kernel, by decide +kernel, by decide +kernel, by decide +kernel⟩
theorem ck12 : chkSs ⟨P, defScope st12, f12.names, fun _ => true⟩ f12.body (defBody st12) = true := by decide +kernel
theorem sc12 : FnScope f12.names (f12.names.take f12.np) (defScope st12) := ⟨by decide +kernel, by decide +kernel, by decide +kernel, by decide +kernel, by decide +kernel, by decide +kernel, by decide +kernel⟩
theorem ck13 : chkSs ⟨P, defScope st13, f13.names, fun _ => true⟩ f13.body (defBody st13) = true := by decide +kernel
theorem sc13 : FnScope f13.names (f13.names.take f13.np) (defScope st13) := ⟨by decide +kernel, by decide +kernel, by decide +kernel, by decide +kernel, by decide +kernel, by decide +kernel, by decide +kernel⟩
theorem ck14 : chkSs ⟨P, defScope st14, f14.names, fun _ => true⟩ f14.body (defBody st14) = true := by decide +kernel
theorem sc14 : FnScope f14.names (f14.names.take f14.np) (defScope st14) := ⟨by decide +kernel, by decide +kernel, by decide +kernel, by decide +kernel, by decide +kernel, by decide +kernel, by decide +kernel⟩
theorem ck15 : chkSs ⟨P, defScope st15, f15.names, fun _ => true⟩ f15.body (defBody st15) = true := by decide +kernel
theorem sc15 : FnScope f15.names (f15.names.take f15.np) (defScope st15) := ⟨by decide +kernel, by decide +kernel, by decide +kernel, by decide +kernel, by decide +kernel, by decide +kernel, by decide +kernel⟩
theorem ck16 : chkSs ⟨P, defScope st16, f16.names, fun _ => true⟩ f16.body (defBody st16) = true := by decide +kernel
theorem sc16 : FnScope f16.names (f16.names.take f16.np) (defScope st16) := ⟨by decide +kernel, by decide +kernel, by decide +kernel, by decide +kernel, by decide +kernel, by decide +kernel, by decide +kernel⟩
theorem ck17 : chkSs ⟨P, defScope st17, f17.names, fun _ => true⟩ f17.body (defBody st17) = true := by decide +kernel
theorem sc17 : FnScope f17.names (f17.names.take f17.np) (defScope st17) := ⟨by decide +kernel, by decide +kernel, by decide +kernel, by decide +kernel, by decide +kernel, by decide +kernel, by decide +kernel⟩
theorem ck18 : chkSs ⟨P, defScope st18, f18.names, fun _ => true⟩ f18.body (defBody st18) = true := by decide +kernel
theorem sc18 : FnScope f18.names (f18.names.take f18.np) (defScope st18) := ⟨by decide +kernel, by decide +kernel, by decide +kernel, by decide +kernel, by decide +kernel, by decide +kernel, by decide +kernel⟩
theorem ck19 : chkSs ⟨P, defScope st19, f19.names, fun _ => true⟩ f19.body (defBody st19) = true := by decide +kernel
theorem sc19 : FnScope f19.names (f19.names.take f19.np) (defScope st19) := ⟨by decide +kernel, by decide +kernel, by decide +kernel, by decide +kernel, by decide +kernel, by decide +kernel, by decide +kernel⟩
theorem ck20 : chkSs ⟨P, defScope st20, f20.names, fun _ => true⟩ f20.body (defBody st20) = true := by decide +kernel
theorem sc20 : FnScope f20.names (f20.names.take f20.np) (defScope st20) := ⟨by decide +kernel, by decide +kernel, by decide +kernel, by decide +kernel, by decide +kernel, by decide +kernel, by decide +kernel⟩
theorem ck21 : chkSs ⟨P, defScope st21, f21.names, fun _ => true⟩ f21.body (defBody st21) = true := by decide +kernel
theorem sc21 : FnScope f21.names (f21.names.take f21.np) (defScope st21) := ⟨by decide +kernel, by decide +kernel, by decide +kernel, by decide +kernel, by decide +kernel, by decide +kernel, by decide +kernel⟩
theorem ck22 : chkSs ⟨P, defScope st22, f22.names, fun _ => true⟩ f22.body (defBody st22) = true := by decide +kernel
theorem sc22 : FnScope f22.names (f22.names.take f22.np) (defScope st22) := ⟨by decide +kernel, by decide +kernel, by decide +kernel, by decide +kernel, by decide +kernel, by decide +kernel, by decide +kernel⟩
theorem ck23 : chkSs ⟨P, defScope st23, f23.names, fun _ => true⟩ f23.body (defBody st23) = true := by decide +kernel
theorem sc23 : FnScope f23.names (f23.names.take f23.np) (defScope st23) := ⟨by decide +kernel, by decide +kernel, by decide +kernel, by decide +kernel, by decide +kernel, by decide +kernel, by decide +kernel⟩
theorem ck24 : chkSs ⟨P, defScope st24, f24.names, fun _ => true⟩ f24.body (defBody st24) = true := by decide +kernel
theorem sc24 : FnScope f24.names (f24.names.take f24.np) (defScope st24) := ⟨by decide +kernel, by decide +kernel, by decide +kernel, by decide +kernel, by decide +kernel, by decide +kernel, by decide +kernel⟩
theorem ck25 : chkSs ⟨P, defScope st25, f25.names, fun _ => true⟩ f25.body (defBody st25) = true := by decide +kernel
theorem sc25 : FnScope f25.names (f25.names.take f25.np) (defScope st25) := ⟨by decide +kernel, by decide +kernel, by decide +kernel, by decide +kernel, by decide +kernel, by decide +kernel, by decide +kernel⟩
theorem ck26 : chkSs ⟨P, defScope st26, f26.names, fun _ => true⟩ f26.body (defBody st26) = true := by decide +kernel
theorem sc26 : FnScope f26.names (f26.names.take f26.np) (defScope st26) := ⟨by decide +kernel, by decide +kernel, by decide +kernel, by decide +kernel, by decide +kernel, by decide +kernel, by decide +kernel⟩
theorem ck27 : chkSs ⟨P, defScope st27, f27.names, fun _ => true⟩ f27.body (defBody st27) = true := by decide +kernel
theorem sc27 : FnScope f27.names (f27.names.take f27.np) (defScope st27) := ⟨by decide +kernel, by decide +kernel, by decide +kernel, by decide +kernel, by decide +kernel, by decide +kernel, by decide +kernel⟩
theorem ck28 : chkSs ⟨P, defScope st28, f28.names, fun _ => true⟩ f28.body (defBody st28) = true := by decide +kernel
theorem sc28 : FnScope f28.names (f28.names.take f28.np) (defScope st28) := ⟨by decide +kernel, by decide +kernel, by decide +kernel, by decide +kernel, by decide +kernel, by decide +kernel, by decide +kernel⟩
theorem ck29 : chkSs ⟨P, defScope st29, f29.names, fun _ => true⟩ f29.body (defBody st29) = true := by decide +kernel
theorem sc29 : FnScope f29.names (f29.names.take f29.np) (defScope st29) := ⟨by decide +kernel, by decide +kernel, by decide +kernel, by decide +kernel, by decide +kernel, by decide +kernel, by decide +kernel⟩
theorem ck30 : chkSs ⟨P, defScope st30, f30.names, fun _ => true⟩ f30.body (defBody st30) = true := by decide +kernel
theorem sc30 : FnScope f30.names (f30.names.take f30.np) (defScope st30) := ⟨by decide +kernel, by decide +kernel, by decide +kernel, by decide +kernel, by decide +kernel, by decide +kernel, by decide +kernel⟩
theorem ck31 : chkSs ⟨P, defScope st31, f31.names, fun _ => true⟩ f31.body (defBody st31) = true := by decide +kernel
theorem sc31 : FnScope f31.names (f31.names.take f31.np) (defScope st31) := ⟨by decide +kernel, by decide +kernel, by decide +kernel, by decide +kernel, by decide +kernel, by decide +kernel, by decide +kernel⟩
theorem ck32 : chkSs ⟨P, defScope st32, f32.names, fun _ => true⟩ f32.body (defBody st32) = true := by decide +kernel
theorem sc32 : FnScope f32.names (f32.names.take f32.np) (defScope st32) := ⟨by decide +kernel, by decide +kernel, by decide +kernel, by decide +kernel, by decide +kernel, by decide +kernel, by decide +kernel⟩
theorem ck33 : chkSs ⟨P, defScope st33, f33.names, fun _ => true⟩ f33.body (defBody st33) = true := by decide +kernel
theorem sc33 : FnScope f33.names (f33.names.take f33.np) (defScope st33) := ⟨by decide +kernel, by decide +kernel, by decide +kernel, by decide +kernel, by decide +kernel, by decide +kernel, by decide +kernel⟩
theorem ck34 : chkSs ⟨P, defScope st34, f34.names, fun _ => true⟩ f34.body (defBody st34) = true := by decide +kernel
theorem sc34 : FnScope f34.names (f34.names.take f34.np) (defScope st34) := ⟨by decide +kernel, by decide +kernel, by decide +kernel, by decide +kernel, by decide +kernel, by decide +kernel, by decide +kernel⟩
theorem df0 {Z : Gz} {mg : Str → Option Value} {a : Addr} (hZ : Z.P = P) (ha : Z.fa 0 = a) (D : Dk Z.K f0.name f0.qual st0 a) (hg : mg f0.name = some (.ref a)) : ∃ st fd, DefG Z mg 0 f0 st fd := by
  obtain ⟨fd, F⟩ := D
  subst ha
  exact ⟨st0, fd, F, sc0, by decide, by rw [hZ]; exact ck0, F.binds (ps := f0.names.take f0.np) fun _ _ _ _ _ _ us hl => match us, hl with | [_], _ => rfl, fun _ => hg⟩
theorem df1 {Z : Gz} {mg : Str → Option Value} {a : Addr} (hZ : Z.P = P) (ha : Z.fa 1 = a) (D : Dk Z.K f1.name f1.qual st1 a) (hg : mg f1.name = some (.ref a)) : ∃ st fd, DefG Z mg 1 f1 st fd := by
  obtain ⟨fd, F⟩ := D
  subst ha
  exact ⟨st1, fd, F, sc1, by decide, by rw [hZ]; exact ck1, F.binds (ps := f1.names.take f1.np) fun _ _ _ _ _ _ us hl => match us, hl with | [_, _, _], _ => rfl, fun _ => hg⟩
theorem df2 {Z : Gz} {mg : Str → Option Value} {a : Addr} (hZ : Z.P = P) (ha : Z.fa 2 = a) (D : Dk Z.K f2.name f2.qual st2 a) (hg : mg f2.name = some (.ref a)) : ∃ st fd, DefG Z mg 2 f2 st fd := by
  obtain ⟨fd, F⟩ := D
  subst ha
  exact ⟨st2, fd, F, sc2, by decide, by rw [hZ]; exact ck2, F.binds (ps := f2.names.take f2.np) fun _ _ _ _ _ _ us hl => match us, hl with | [_], _ => rfl, fun _ => hg⟩
theorem df3 {Z : Gz} {mg : Str → Option Value} {a : Addr} (hZ : Z.P = P) (ha : Z.fa 3 = a) (D : Dk Z.K f3.name f3.qual st3 a) (hg : mg f3.name = some (.ref a)) : ∃ st fd, DefG Z mg 3 f3 st fd := by
  obtain ⟨fd, F⟩ := D
  subst ha
  exact ⟨st3, fd, F, sc3, by decide, by rw [hZ]; exact ck3, F.binds (ps := f3.names.take f3.np) fun _ _ _ _ _ _ us hl => match us, hl with | [_, _], _ => rfl, fun _ => hg⟩
theorem df4 {Z : Gz} {mg : Str → Option Value} {a : Addr} (hZ : Z.P = P) (ha : Z.fa 4 = a) (D : Dk Z.K f4.name f4.qual st4 a) (hg : mg f4.name = some (.ref a)) : ∃ st fd, DefG Z mg 4 f4 st fd := by
  obtain ⟨fd, F⟩ := D
  subst ha
  exact ⟨st4, fd, F, sc4, by decide, by rw [hZ]; exact ck4, F.binds (ps := f4.names.take f4.np) fun _ _ _ _ _ _ us hl => match us, hl with | [_], _ => rfl, fun _ => hg⟩
theorem df5 {Z : Gz} {mg : Str → Option Value} {a : Addr} (hZ : Z.P = P) (ha : Z.fa 5 = a) (D : Dk Z.K f5.name f5.qual st5 a) (hg : mg f5.name = some (.ref a)) : ∃ st fd, DefG Z mg 5 f5 st fd := by
  obtain ⟨fd, F⟩ := D
  subst ha
  exact ⟨st5, fd, F, sc5, by decide, by rw [hZ]; exact ck5, F.binds (ps := f5.names.take f5.np) fun _ _ _ _ _ _ us hl => match us, hl with | [_], _ => rfl, fun _ => hg⟩
theorem df6 {Z : Gz} {mg : Str → Option Value} {a : Addr} (hZ : Z.P = P) (ha : Z.fa 6 = a) (D : Dk Z.K f6.name f6.qual st6 a) (hg : mg f6.name = some (.ref a)) : ∃ st fd, DefG Z mg 6 f6 st fd := by
  obtain ⟨fd, F⟩ := D
  subst ha
  exact ⟨st6, fd, F, sc6, by decide, by rw [hZ]; exact ck6, F.binds (ps := f6.names.take f6.np) fun _ _ _ _ _ _ us hl => match us, hl with | [_], _ => rfl, fun _ => hg⟩
theorem df7 {Z : Gz} {mg : Str → Option Value} {a : Addr} (hZ : Z.P = P) (ha : Z.fa 7 = a) (D : Dk Z.K f7.name f7.qual st7 a) (hg : mg f7.name = some (.ref a)) : ∃ st fd, DefG Z mg 7 f7 st fd := by
  obtain ⟨fd, F⟩ := D
  subst ha
  exact ⟨st7, fd, F, sc7, by decide, by rw [hZ]; exact ck7, F.binds (ps := f7.names.take f7.np) fun _ _ _ _ _ _ us hl => match us, hl with | [_, _], _ => rfl, fun _ => hg⟩
theorem df8 {Z : Gz} {mg : Str → Option Value} {a : Addr} (hZ : Z.P = P) (ha : Z.fa 8 = a) (D : Dk Z.K f8.name f8.qual st8 a) (hg : mg f8.name = some (.ref a)) : ∃ st fd, DefG Z mg 8 f8 st fd := by
  obtain ⟨fd, F⟩ := D
  subst ha
  exact ⟨st8, fd, F, sc8, by decide, by rw [hZ]; exact ck8, F.binds (ps := f8.names.take f8.np) fun _ _ _ _ _ _ us hl => match us, hl with | [_, _, _, _], _ => rfl, fun _ => hg⟩
theorem df9 {Z : Gz} {mg : Str → Option Value} {a : Addr} (hZ : Z.P = P) (ha : Z.fa 9 = a) (D : Dk Z.K f9.name f9.qual st9 a) (hg : mg f9.name = some (.ref a)) : ∃ st fd, DefG Z mg 9 f9 st fd := by
  obtain ⟨fd, F⟩ := D
  subst ha
  exact ⟨st9, fd, F, sc9, by decide, by rw [hZ]; exact ck9, F.binds (ps := f9.names.take f9.np) fun _ _ _ _ _ _ us hl => match us, hl with | [_], _ => rfl, fun _ => hg⟩
theorem df10 {Z : Gz} {mg : Str → Option Value} {a : Addr} (hZ : Z.P = P) (ha : Z.fa 10 = a) (D : Dk Z.K f10.name f10.qual st10 a) (hg : mg f10.name = some (.ref a)) : ∃ st fd, DefG Z mg 10 f10 st fd := by
  obtain ⟨fd, F⟩ := D
  subst ha
  exact ⟨st10, fd, F, sc10, by decide, by rw [hZ]; exact ck10, F.binds (ps := f10.names.take f10.np) fun _ _ _ _ _ _ us hl => match us, hl with | [_, _], _ => rfl, fun _ => hg⟩
theorem df11 {Z : Gz} {mg : Str → Option Value} {a : Addr} (hZ : Z.P = P) (ha : Z.fa 11 = a) (D : Dk Z.K f11.name f11.qual st11 a) (hg : mg f11.name = some (.ref a)) : ∃ st fd, DefG Z mg 11 f11 st fd := by
  obtain ⟨fd, F⟩ := D
  subst ha
  exact ⟨st11, fd, F, sc11, by decide, by rw [hZ]; exact ck11, F.binds (ps := f11.names.take f11.np) fun _ _ _ _ _ _ us hl => match us, hl with | [_, _], _ => rfl, fun _ => hg⟩
theorem df12 {Z : Gz} {mg : Str → Option Value} {a : Addr} (hZ : Z.P = P) (ha : Z.fa 12 = a) (D : Dk Z.K f12.name f12.qual st12 a) (hg : mg f12.name = some (.ref a)) : ∃ st fd, DefG Z mg 12 f12 st fd := by
  obtain ⟨fd, F⟩ := D
  subst ha
  exact ⟨st12, fd, F, sc12, by decide, by rw [hZ]; exact ck12, F.binds (ps := f12.names.take f12.np) fun _ _ _ _ _ _ us hl => match us, hl with | [_, _], _ => rfl, fun _ => hg⟩
theorem df13 {Z : Gz} {mg : Str → Option Value} {a : Addr} (hZ : Z.P = P) (ha : Z.fa 13 = a) (D : Dk Z.K f13.name f13.qual st13 a) (hg : mg f13.name = some (.ref a)) : ∃ st fd, DefG Z mg 13 f13 st fd := by
  obtain ⟨fd, F⟩ := D
  subst ha
  exact ⟨st13, fd, F, sc13, by decide, by rw [hZ]; exact ck13, F.binds (ps := f13.names.take f13.np) fun _ _ _ _ _ _ us hl => match us, hl with | [_], _ => rfl, fun _ => hg⟩
theorem df14 {Z : Gz} {mg : Str → Option Value} {a : Addr} (hZ : Z.P = P) (ha : Z.fa 14 = a) (D : Dk Z.K f14.name f14.qual st14 a) (hg : mg f14.name = some (.ref a)) : ∃ st fd, DefG Z mg 14 f14 st fd := by
  obtain ⟨fd, F⟩ := D
  subst ha
  exact ⟨st14, fd, F, sc14, by decide, by rw [hZ]; exact ck14, F.binds (ps := f14.names.take f14.np) fun _ _ _ _ _ _ us hl => match us, hl with | [_, _, _], _ => rfl, fun _ => hg⟩
theorem df15 {Z : Gz} {mg : Str → Option Value} {a : Addr} (hZ : Z.P = P) (ha : Z.fa 15 = a) (D : Dk Z.K f15.name f15.qual st15 a) (hg : mg f15.name = some (.ref a)) : ∃ st fd, DefG Z mg 15 f15 st fd := by
  obtain ⟨fd, F⟩ := D
  subst ha
  exact ⟨st15, fd, F, sc15, by decide, by rw [hZ]; exact ck15, F.binds (ps := f15.names.take f15.np) fun _ _ _ _ _ _ us hl => match us, hl with | [_, _, _, _], _ => rfl, fun _ => hg⟩
theorem df16 {Z : Gz} {mg : Str → Option Value} {a : Addr} (hZ : Z.P = P) (ha : Z.fa 16 = a) (D : Dk Z.K f16.name f16.qual st16 a) (hg : mg f16.name = some (.ref a)) : ∃ st fd, DefG Z mg 16 f16 st fd := by
  obtain ⟨fd, F⟩ := D
  subst ha
  exact ⟨st16, fd, F, sc16, by decide, by rw [hZ]; exact ck16, F.binds (ps := f16.names.take f16.np) fun _ _ _ _ _ _ us hl => match us, hl with | [_, _], _ => rfl, fun _ => hg⟩
theorem df17 {Z : Gz} {mg : Str → Option Value} {a : Addr} (hZ : Z.P = P) (ha : Z.fa 17 = a) (D : Dk Z.K f17.name f17.qual st17 a) (hg : mg f17.name = some (.ref a)) : ∃ st fd, DefG Z mg 17 f17 st fd := by
  obtain ⟨fd, F⟩ := D
  subst ha
  exact ⟨st17, fd, F, sc17, by decide, by rw [hZ]; exact ck17, F.binds (ps := f17.names.take f17.np) fun _ _ _ _ _ _ us hl => match us, hl with | [_, _], _ => rfl, fun _ => hg⟩
theorem df18 {Z : Gz} {mg : Str → Option Value} {a : Addr} (hZ : Z.P = P) (ha : Z.fa 18 = a) (D : Dk Z.K f18.name f18.qual st18 a) (hg : mg f18.name = some (.ref a)) : ∃ st fd, DefG Z mg 18 f18 st fd := by
  obtain ⟨fd, F⟩ := D
  subst ha
  exact ⟨st18, fd, F, sc18, by decide, by rw [hZ]; exact ck18, F.binds (ps := f18.names.take f18.np) fun _ _ _ _ _ _ us hl => match us, hl with | [_, _], _ => rfl, fun _ => hg⟩
theorem df19 {Z : Gz} {mg : Str → Option Value} {a : Addr} (hZ : Z.P = P) (ha : Z.fa 19 = a) (D : Dk Z.K f19.name f19.qual st19 a) (hg : mg f19.name = some (.ref a)) : ∃ st fd, DefG Z mg 19 f19 st fd := by
  obtain ⟨fd, F⟩ := D
  subst ha
  exact ⟨st19, fd, F, sc19, by decide, by rw [hZ]; exact ck19, F.binds (ps := f19.names.take f19.np) fun _ _ _ _ _ _ us hl => match us, hl with | [_, _], _ => rfl, fun _ => hg⟩
theorem df20 {Z : Gz} {mg : Str → Option Value} {a : Addr} (hZ : Z.P = P) (ha : Z.fa 20 = a) (D : Dk Z.K f20.name f20.qual st20 a) (hg : mg f20.name = some (.ref a)) : ∃ st fd, DefG Z mg 20 f20 st fd := by
  obtain ⟨fd, F⟩ := D
  subst ha
  exact ⟨st20, fd, F, sc20, by decide, by rw [hZ]; exact ck20, F.binds (ps := f20.names.take f20.np) fun _ _ _ _ _ _ us hl => match us, hl with | [_, _, _, _], _ => rfl, fun _ => hg⟩
theorem df21 {Z : Gz} {mg : Str → Option Value} {a : Addr} (hZ : Z.P = P) (ha : Z.fa 21 = a) (D : Dk Z.K f21.name f21.qual st21 a) (hg : mg f21.name = some (.ref a)) : ∃ st fd, DefG Z mg 21 f21 st fd := by
  obtain ⟨fd, F⟩ := D
  subst ha
  exact ⟨st21, fd, F, sc21, by decide, by rw [hZ]; exact ck21, F.binds (ps := f21.names.take f21.np) fun _ _ _ _ _ _ us hl => match us, hl with | [_, _, _], _ => rfl, fun _ => hg⟩
theorem df22 {Z : Gz} {mg : Str → Option Value} {a : Addr} (hZ : Z.P = P) (ha : Z.fa 22 = a) (D : Dk Z.K f22.name f22.qual st22 a) (hg : mg f22.name = some (.ref a)) : ∃ st fd, DefG Z mg 22 f22 st fd := by
  obtain ⟨fd, F⟩ := D
  subst ha
  exact ⟨st22, fd, F, sc22, by decide, by rw [hZ]; exact ck22, F.binds (ps := f22.names.take f22.np) fun _ _ _ _ _ _ us hl => match us, hl with | [_, _], _ => rfl, fun _ => hg⟩
theorem df23 {Z : Gz} {mg : Str → Option Value} {a : Addr} (hZ : Z.P = P) (ha : Z.fa 23 = a) (D : Dk Z.K f23.name f23.qual st23 a) (hg : mg f23.name = some (.ref a)) : ∃ st fd, DefG Z mg 23 f23 st fd := by
  obtain ⟨fd, F⟩ := D
  subst ha
  exact ⟨st23, fd, F, sc23, by decide, by rw [hZ]; exact ck23, F.binds (ps := f23.names.take f23.np) fun _ _ _ _ _ _ us hl => match us, hl with | [_, _], _ => rfl, fun _ => hg⟩
theorem df24 {Z : Gz} {mg : Str → Option Value} {a : Addr} (hZ : Z.P = P) (ha : Z.fa 24 = a) (D : Dk Z.K f24.name f24.qual st24 a) (hg : mg f24.name = some (.ref a)) : ∃ st fd, DefG Z mg 24 f24 st fd := by
  obtain ⟨fd, F⟩ := D
  subst ha
  exact ⟨st24, fd, F, sc24, by decide, by rw [hZ]; exact ck24, F.binds (ps := f24.names.take f24.np) fun _ _ _ _ _ _ us hl => match us, hl with | [_, _], _ => rfl, fun _ => hg⟩
theorem df25 {Z : Gz} {mg : Str → Option Value} {a : Addr} (hZ : Z.P = P) (ha : Z.fa 25 = a) (D : Dk Z.K f25.name f25.qual st25 a) (hg : mg f25.name = some (.ref a)) : ∃ st fd, DefG Z mg 25 f25 st fd := by
  obtain ⟨fd, F⟩ := D
  subst ha
  exact ⟨st25, fd, F, sc25, by decide, by rw [hZ]; exact ck25, F.binds (ps := f25.names.take f25.np) fun _ _ _ _ _ _ us hl => match us, hl with | [_, _], _ => rfl, fun _ => hg⟩
theorem df26 {Z : Gz} {mg : Str → Option Value} {a : Addr} (hZ : Z.P = P) (ha : Z.fa 26 = a) (D : Dk Z.K f26.name f26.qual st26 a) (hg : mg f26.name = some (.ref a)) : ∃ st fd, DefG Z mg 26 f26 st fd := by
  obtain ⟨fd, F⟩ := D
  subst ha
  exact ⟨st26, fd, F, sc26, by decide, by rw [hZ]; exact ck26, F.binds (ps := f26.names.take f26.np) fun _ _ _ _ _ _ us hl => match us, hl with | [_, _], _ => rfl, fun _ => hg⟩
theorem df27 {Z : Gz} {mg : Str → Option Value} {a : Addr} (hZ : Z.P = P) (ha : Z.fa 27 = a) (D : Dk Z.K f27.name f27.qual st27 a) (hg : mg f27.name = some (.ref a)) : ∃ st fd, DefG Z mg 27 f27 st fd := by
  obtain ⟨fd, F⟩ := D
  subst ha
  exact ⟨st27, fd, F, sc27, by decide, by rw [hZ]; exact ck27, F.binds (ps := f27.names.take f27.np) fun _ _ _ _ _ _ us hl => match us, hl with | [_], _ => rfl, fun _ => hg⟩
theorem df28 {Z : Gz} {mg : Str → Option Value} {a : Addr} (hZ : Z.P = P) (ha : Z.fa 28 = a) (D : Dk Z.K f28.name f28.qual st28 a) (hg : mg f28.name = some (.ref a)) : ∃ st fd, DefG Z mg 28 f28 st fd := by
  obtain ⟨fd, F⟩ := D
  subst ha
  exact ⟨st28, fd, F, sc28, by decide, by rw [hZ]; exact ck28, F.binds (ps := f28.names.take f28.np) fun _ _ _ _ _ _ us hl => match us, hl with | [_, _, _], _ => rfl, fun _ => hg⟩
theorem df29 {Z : Gz} {mg : Str → Option Value} {a : Addr} (hZ : Z.P = P) (ha : Z.fa 29 = a) (D : Dk Z.K f29.name f29.qual st29 a) (hg : mg f29.name = some (.ref a)) : ∃ st fd, DefG Z mg 29 f29 st fd := by
  obtain ⟨fd, F⟩ := D
  subst ha
  exact ⟨st29, fd, F, sc29, by decide, by rw [hZ]; exact ck29, F.binds (ps := f29.names.take f29.np) fun _ _ _ _ _ _ us hl => match us, hl with | [_, _, _, _], _ => rfl, fun _ => hg⟩
theorem df30 {Z : Gz} {mg : Str → Option Value} {a : Addr} (hZ : Z.P = P) (ha : Z.fa 30 = a) (D : Dk Z.K f30.name f30.qual st30 a) (hg : mg f30.name = some (.ref a)) : ∃ st fd, DefG Z mg 30 f30 st fd := by
  obtain ⟨fd, F⟩ := D
  subst ha
  exact ⟨st30, fd, F, sc30, by decide, by rw [hZ]; exact ck30, F.binds (ps := f30.names.take f30.np) fun _ _ _ _ _ _ us hl => match us, hl with | [_, _], _ => rfl, fun _ => hg⟩
theorem df31 {Z : Gz} {mg : Str → Option Value} {a : Addr} (hZ : Z.P = P) (ha : Z.fa 31 = a) (D : Dk Z.K f31.name f31.qual st31 a) (hg : mg f31.name = some (.ref a)) : ∃ st fd, DefG Z mg 31 f31 st fd := by
  obtain ⟨fd, F⟩ := D
  subst ha
  exact ⟨st31, fd, F, sc31, by decide, by rw [hZ]; exact ck31, F.binds (ps := f31.names.take f31.np) fun _ _ _ _ _ _ us hl => match us, hl with | [_, _], _ => rfl, fun _ => hg⟩
theorem df32 {Z : Gz} {mg : Str → Option Value} {a : Addr} (hZ : Z.P = P) (ha : Z.fa 32 = a) (D : Dk Z.K f32.name f32.qual st32 a) (hg : mg f32.name = some (.ref a)) : ∃ st fd, DefG Z mg 32 f32 st fd := by
  obtain ⟨fd, F⟩ := D
  subst ha
  exact ⟨st32, fd, F, sc32, by decide, by rw [hZ]; exact ck32, F.binds (ps := f32.names.take f32.np) fun _ _ _ _ _ _ us hl => match us, hl with | [_, _, _], _ => rfl, fun _ => hg⟩
theorem df33 {Z : Gz} {mg : Str → Option Value} {a : Addr} (hZ : Z.P = P) (ha : Z.fa 33 = a) (D : Dk Z.K f33.name f33.qual st33 a) (hg : mg f33.name = some (.ref a)) : ∃ st fd, DefG Z mg 33 f33 st fd := by
  obtain ⟨fd, F⟩ := D
  subst ha
  exact ⟨st33, fd, F, sc33, by decide, by rw [hZ]; exact ck33, F.binds (ps := f33.names.take f33.np) fun _ _ _ _ _ _ us hl => match us, hl with | [_, _, _], _ => rfl, fun _ => hg⟩
theorem df34 {Z : Gz} {mg : Str → Option Value} {a : Addr} (hZ : Z.P = P) (ha : Z.fa 34 = a) (D : Dk Z.K f34.name f34.qual st34 a) (hg : mg f34.name = some (.ref a)) : ∃ st fd, DefG Z mg 34 f34 st fd := by
  obtain ⟨fd, F⟩ := D
  subst ha
  exact ⟨st34, fd, F, sc34, by decide, by rw [hZ]; exact ck34, F.binds (ps := f34.names.take f34.np) fun _ _ _ _ _ _ us hl => match us, hl with | [_], _ => rfl, fun _ => hg⟩
/-- where all stands -/
def ZZ (K : PySem.W.Frag) (wf : Nat) (fa cl ec : List Addr) : Gz := { P := P, K := K, cl := fun i => cl.getD i 0, ec := fun i => ec.getD i 0, wf := wf, fa := fun i => fa.getD i 0 }
theorem all_mk {w : World} {K : PySem.W.Frag} {h : Heap} {mg : Str → Option Value} {fa : Addr} {wf n : Nat} (X : K.In h) (G : h.Ns mainGlobals mg) (hfa : mg "law" = some (.ref fa)) {q0 q1 q2 q3 q4 q5 q6 q7 q8 q9 q10 q11 q12 q13 q14 q15 q16 q17 q18 q19 q20 q21 q22 q23 q24 q25 q26 q27 q28 q29 q30 q31 q32 q33 q34 e0 i0 e1 i1 e2 i2 : Addr}
    (a0 : PySem.W.nsIn K mainGlobals f0.name = some (some (.ref q0)))
    (a1 : PySem.W.nsIn K mainGlobals f1.name = some (some (.ref q1)))
    (a2 : PySem.W.nsIn K mainGlobals f2.name = some (some (.ref q2)))
    (a3 : PySem.W.nsIn K mainGlobals f3.name = some (some (.ref q3)))
    (a4 : PySem.W.nsIn K mainGlobals f4.name = some (some (.ref q4)))
    (a5 : PySem.W.nsIn K mainGlobals f5.name = some (some (.ref q5)))
    (a6 : PySem.W.nsIn K mainGlobals f6.name = some (some (.ref q6)))
    (a7 : PySem.W.nsIn K mainGlobals f7.name = some (some (.ref q7)))
    (a8 : PySem.W.nsIn K mainGlobals f8.name = some (some (.ref q8)))
    (a9 : PySem.W.nsIn K mainGlobals f9.name = some (some (.ref q9)))
    (a10 : PySem.W.nsIn K mainGlobals f10.name = some (some (.ref q10)))
    (a11 : PySem.W.nsIn K mainGlobals f11.name = some (some (.ref q11)))
    (a12 : PySem.W.nsIn K mainGlobals f12.name = some (some (.ref q12)))
    (a13 : PySem.W.nsIn K mainGlobals f13.name = some (some (.ref q13)))
    (a14 : PySem.W.nsIn K mainGlobals f14.name = some (some (.ref q14)))
    (a15 : PySem.W.nsIn K mainGlobals f15.name = some (some (.ref q15)))
    (a16 : PySem.W.nsIn K mainGlobals f16.name = some (some (.ref q16)))
    (a17 : PySem.W.nsIn K mainGlobals f17.name = some (some (.ref q17)))
    (a18 : PySem.W.nsIn K mainGlobals f18.name = some (some (.ref q18)))
    (a19 : PySem.W.nsIn K mainGlobals f19.name = some (some (.ref q19)))
    (a20 : PySem.W.nsIn K mainGlobals f20.name = some (some (.ref q20)))
    (a21 : PySem.W.nsIn K mainGlobals f21.name = some (some (.ref q21)))
    (a22 : PySem.W.nsIn K mainGlobals f22.name = some (some (.ref q22)))
    (a23 : PySem.W.nsIn K mainGlobals f23.name = some (some (.ref q23)))
    (a24 : PySem.W.nsIn K mainGlobals f24.name = some (some (.ref q24)))
    (a25 : PySem.W.nsIn K mainGlobals f25.name = some (some (.ref q25)))
    (a26 : PySem.W.nsIn K mainGlobals f26.name = some (some (.ref q26)))
    (a27 : PySem.W.nsIn K mainGlobals f27.name = some (some (.ref q27)))
    (a28 : PySem.W.nsIn K mainGlobals f28.name = some (some (.ref q28)))
    (a29 : PySem.W.nsIn K mainGlobals f29.name = some (some (.ref q29)))
    (a30 : PySem.W.nsIn K mainGlobals f30.name = some (some (.ref q30)))
    (a31 : PySem.W.nsIn K mainGlobals f31.name = some (some (.ref q31)))
    (a32 : PySem.W.nsIn K mainGlobals f32.name = some (some (.ref q32)))
    (a33 : PySem.W.nsIn K mainGlobals f33.name = some (some (.ref q33)))
    (a34 : PySem.W.nsIn K mainGlobals f34.name = some (some (.ref q34)))
    (d0 : Dk K f0.name f0.qual st0 q0)
    (d1 : Dk K f1.name f1.qual st1 q1)
    (d2 : Dk K f2.name f2.qual st2 q2)
    (d3 : Dk K f3.name f3.qual st3 q3)
    (d4 : Dk K f4.name f4.qual st4 q4)
    (d5 : Dk K f5.name f5.qual st5 q5)
    (d6 : Dk K f6.name f6.qual st6 q6)
    (d7 : Dk K f7.name f7.qual st7 q7)
    (d8 : Dk K f8.name f8.qual st8 q8)
    (d9 : Dk K f9.name f9.qual st9 q9)
    (d10 : Dk K f10.name f10.qual st10 q10)
    (d11 : Dk K f11.name f11.qual st11 q11)
    (d12 : Dk K f12.name f12.qual st12 q12)
    (d13 : Dk K f13.name f13.qual st13 q13)
    (d14 : Dk K f14.name f14.qual st14 q14)
    (d15 : Dk K f15.name f15.qual st15 q15)
    (d16 : Dk K f16.name f16.qual st16 q16)
    (d17 : Dk K f17.name f17.qual st17 q17)
    (d18 : Dk K f18.name f18.qual st18 q18)
    (d19 : Dk K f19.name f19.qual st19 q19)
    (d20 : Dk K f20.name f20.qual st20 q20)
    (d21 : Dk K f21.name f21.qual st21 q21)
    (d22 : Dk K f22.name f22.qual st22 q22)
    (d23 : Dk K f23.name f23.qual st23 q23)
    (d24 : Dk K f24.name f24.qual st24 q24)
    (d25 : Dk K f25.name f25.qual st25 q25)
    (d26 : Dk K f26.name f26.qual st26 q26)
    (d27 : Dk K f27.name f27.qual st27 q27)
    (d28 : Dk K f28.name f28.qual st28 q28)
    (d29 : Dk K f29.name f29.qual st29 q29)
    (d30 : Dk K f30.name f30.qual st30 q30)
    (d31 : Dk K f31.name f31.qual st31 q31)
    (d32 : Dk K f32.name f32.qual st32 q32)
    (d33 : Dk K f33.name f33.qual st33 q33)
    (d34 : Dk K f34.name f34.qual st34 q34)
    (ae0 : PySem.W.nsIn K mainGlobals "TooMany" = some (some (.ref e0)))
    (ek0 : Ek1 K e0 i0)
    (ik0 : ∃ fd, Ik K PySem.Challenge.pw_whoevercomes_k30_hindsight_and_nested_sk mg "__init__" "TooMany.__init__" se0 e0 i0 fd)
    (en0_what : PySem.W.findIn K (.ref e0) "what" = some none)
    (ae1 : PySem.W.nsIn K mainGlobals "BadPiece" = some (some (.ref e1)))
    (ek1 : Ek1 K e1 i1)
    (ik1 : ∃ fd, Ik K PySem.Challenge.pw_whoevercomes_k30_hindsight_and_nested_sk mg "__init__" "BadPiece.__init__" se1 e1 i1 fd)
    (en1_place : PySem.W.findIn K (.ref e1) "place" = some none)
    (ae2 : PySem.W.nsIn K mainGlobals "BadLetter" = some (some (.ref e2)))
    (ek2 : Ek1 K e2 i2)
    (ik2 : ∃ fd, Ik K PySem.Challenge.pw_whoevercomes_k30_hindsight_and_nested_sk mg "__init__" "BadLetter.__init__" se2 e2 i2 fd)
    (en2_place : PySem.W.findIn K (.ref e2) "place" = some none)
    (es0_0 : PySem.W.subIn K (.ref e0) (.ref e0) = some true)
    (es0_1 : PySem.W.subIn K (.ref e0) (.ref e1) = some false)
    (es0_2 : PySem.W.subIn K (.ref e0) (.ref e2) = some false)
    (es1_0 : PySem.W.subIn K (.ref e1) (.ref e0) = some false)
    (es1_1 : PySem.W.subIn K (.ref e1) (.ref e1) = some true)
    (es1_2 : PySem.W.subIn K (.ref e1) (.ref e2) = some false)
    (es2_0 : PySem.W.subIn K (.ref e2) (.ref e0) = some false)
    (es2_1 : PySem.W.subIn K (.ref e2) (.ref e1) = some false)
    (es2_2 : PySem.W.subIn K (.ref e2) (.ref e2) = some true)
    (z_len : PySem.W.nsIn K mainGlobals "len" = some none)
    (z_sum : PySem.W.nsIn K mainGlobals "sum" = some none)
    (z_max : PySem.W.nsIn K mainGlobals "max" = some none)
    (z_min : PySem.W.nsIn K mainGlobals "min" = some none)
    (z_abs : PySem.W.nsIn K mainGlobals "abs" = some none)
    (z_int : PySem.W.nsIn K mainGlobals "int" = some none)
    (z_sorted : PySem.W.nsIn K mainGlobals "sorted" = some none)
    (z_list : PySem.W.nsIn K mainGlobals "list" = some none)
    (z_tuple : PySem.W.nsIn K mainGlobals "tuple" = some none)
    (z_any : PySem.W.nsIn K mainGlobals "any" = some none)
    (z_all : PySem.W.nsIn K mainGlobals "all" = some none)
    (z_isinstance : PySem.W.nsIn K mainGlobals "isinstance" = some none)
    (z_range : PySem.W.nsIn K mainGlobals "range" = some none)
    (z_bool : PySem.W.nsIn K mainGlobals "bool" = some none)
    (z_str : PySem.W.nsIn K mainGlobals "str" = some none)
    : ∃ (fd : FuncData) (Z : Gz), Z.P = P ∧ Z.wf = wf ∧ Z.K = K ∧ (∀ (s : Shared) (v : Value), BindsTo s fd ⟨[v], []⟩ [("script", v)]) ∧ ∀ base : Heap, K.In base → base.Ns mainGlobals mg → FnOk PySem.Challenge.pw_whoevercomes_k30_hindsight_and_nested_sk w K mg base (L2.CX PySem.Challenge.pw_whoevercomes_k30_hindsight_and_nested_sk w) (2 * n + 1) fa fd ["script"] (spR Z n 34) := by
  have e := hfa.symm.trans (PySem.W.mg_of X G a34)
  cases e
  have hL := d34
  obtain ⟨fdL, FL⟩ := hL
  obtain ⟨oc, od, kV, doc, pm, an, cdv, ct, osl, rfl, lk, hcd⟩ := id FL.ex
  let Z : Gz := ZZ K wf [q0, q1, q2, q3, q4, q5, q6, q7, q8, q9, q10, q11, q12, q13, q14, q15, q16, q17, q18, q19, q20, q21, q22, q23, q24, q25, q26, q27, q28, q29, q30, q31, q32, q33, fa] [] [e0, e1, e2]
  refine ⟨PySem.W.fnOf f34.name f34.qual (defArgs st34) (defBody st34) (defScope st34) .none kV doc pm an cdv ct, Z, rfl, rfl, rfl, fun s v => .of_eq rfl, fun base _ _ => ?_⟩
  have D : DefAll Z mg 0 Z.P.fns := ⟨df0 (Z := Z) rfl rfl d0 (PySem.W.mg_of X G a0), df1 (Z := Z) rfl rfl d1 (PySem.W.mg_of X G a1), df2 (Z := Z) rfl rfl d2 (PySem.W.mg_of X G a2), df3 (Z := Z) rfl rfl d3 (PySem.W.mg_of X G a3), df4 (Z := Z) rfl rfl d4 (PySem.W.mg_of X G a4), df5 (Z := Z) rfl rfl d5 (PySem.W.mg_of X G a5), df6 (Z := Z) rfl rfl d6 (PySem.W.mg_of X G a6), df7 (Z := Z) rfl rfl d7 (PySem.W.mg_of X G a7), df8 (Z := Z) rfl rfl d8 (PySem.W.mg_of X G a8), df9 (Z := Z) rfl rfl d9 (PySem.W.mg_of X G a9), df10 (Z := Z) rfl rfl d10 (PySem.W.mg_of X G a10), df11 (Z := Z) rfl rfl d11 (PySem.W.mg_of X G a11), df12 (Z := Z) rfl rfl d12 (PySem.W.mg_of X G a12), df13 (Z := Z) rfl rfl d13 (PySem.W.mg_of X G a13), df14 (Z := Z) rfl rfl d14 (PySem.W.mg_of X G a14), df15 (Z := Z) rfl rfl d15 (PySem.W.mg_of X G a15), df16 (Z := Z) rfl rfl d16 (PySem.W.mg_of X G a16), df17 (Z := Z) rfl rfl d17 (PySem.W.mg_of X G a17), df18 (Z := Z) rfl rfl d18 (PySem.W.mg_of X G a18), df19 (Z := Z) rfl rfl d19 (PySem.W.mg_of X G a19), df20 (Z := Z) rfl rfl d20 (PySem.W.mg_of X G a20), df21 (Z := Z) rfl rfl d21 (PySem.W.mg_of X G a21), df22 (Z := Z) rfl rfl d22 (PySem.W.mg_of X G a22), df23 (Z := Z) rfl rfl d23 (PySem.W.mg_of X G a23), df24 (Z := Z) rfl rfl d24 (PySem.W.mg_of X G a24), df25 (Z := Z) rfl rfl d25 (PySem.W.mg_of X G a25), df26 (Z := Z) rfl rfl d26 (PySem.W.mg_of X G a26), df27 (Z := Z) rfl rfl d27 (PySem.W.mg_of X G a27), df28 (Z := Z) rfl rfl d28 (PySem.W.mg_of X G a28), df29 (Z := Z) rfl rfl d29 (PySem.W.mg_of X G a29), df30 (Z := Z) rfl rfl d30 (PySem.W.mg_of X G a30), df31 (Z := Z) rfl rfl d31 (PySem.W.mg_of X G a31), df32 (Z := Z) rfl rfl d32 (PySem.W.mg_of X G a32), df33 (Z := Z) rfl rfl d33 (PySem.W.mg_of X G a33), df34 (Z := Z) rfl rfl d34 (PySem.W.mg_of X G a34), trivial⟩
  have C : ClsAll Z mg 0 Z.P.cls := trivial
  have E0 : ErrF Z PySem.Challenge.pw_whoevercomes_k30_hindsight_and_nested_sk mg 0 (Z.P.ers.getD 0 ⟨Str.empty, [], []⟩) := by
    obtain ⟨fd, I⟩ := ik0
    refine ⟨⟨i0, "__init__", "TooMany.__init__", se0, ["self", "what"], ["what"], fd, I, ek0, by decide +kernel, rfl, rfl, by simp, ?_, ?_⟩, (show ∀ f ∈ ([1] : List Nat), f < 2 by decide), (show (1 : Nat) ≤ 900 by decide), PySem.W.mg_of X G ae0⟩
    · intro f hf
      simp only [List.mem_cons, List.mem_nil_iff, or_false] at hf
      rcases hf with rfl
      · exact en0_what
    · obtain ⟨kV, doc, pm, ct, an, cda, cc, rfl, _⟩ := I
      exact .all fun us hl => match us, hl with | [_, _], _ => rfl
  have E1 : ErrF Z PySem.Challenge.pw_whoevercomes_k30_hindsight_and_nested_sk mg 1 (Z.P.ers.getD 1 ⟨Str.empty, [], []⟩) := by
    obtain ⟨fd, I⟩ := ik1
    refine ⟨⟨i1, "__init__", "BadPiece.__init__", se1, ["self", "place"], ["place"], fd, I, ek1, by decide +kernel, rfl, rfl, by simp, ?_, ?_⟩, (show ∀ f ∈ ([0] : List Nat), f < 2 by decide), (show (1 : Nat) ≤ 900 by decide), PySem.W.mg_of X G ae1⟩
    · intro f hf
      simp only [List.mem_cons, List.mem_nil_iff, or_false] at hf
      rcases hf with rfl
      · exact en1_place
    · obtain ⟨kV, doc, pm, ct, an, cda, cc, rfl, _⟩ := I
      exact .all fun us hl => match us, hl with | [_, _], _ => rfl
  have E2 : ErrF Z PySem.Challenge.pw_whoevercomes_k30_hindsight_and_nested_sk mg 2 (Z.P.ers.getD 2 ⟨Str.empty, [], []⟩) := by
    obtain ⟨fd, I⟩ := ik2
    refine ⟨⟨i2, "__init__", "BadLetter.__init__", se2, ["self", "place"], ["place"], fd, I, ek2, by decide +kernel, rfl, rfl, by simp, ?_, ?_⟩, (show ∀ f ∈ ([0] : List Nat), f < 2 by decide), (show (1 : Nat) ≤ 900 by decide), PySem.W.mg_of X G ae2⟩
    · intro f hf
      simp only [List.mem_cons, List.mem_nil_iff, or_false] at hf
      rcases hf with rfl
      · exact en2_place
    · obtain ⟨kV, doc, pm, ct, an, cda, cc, rfl, _⟩ := I
      exact .all fun us hl => match us, hl with | [_, _], _ => rfl
  have E : ErrAll Z PySem.Challenge.pw_whoevercomes_k30_hindsight_and_nested_sk mg 0 Z.P.ers := ⟨E0, E1, E2, trivial⟩
  have hb : ∀ x ∈ blts, mg x = none := by
    intro x hx
    simp only [blts, List.mem_cons, List.mem_nil_iff, or_false] at hx
    rcases hx with rfl | rfl | rfl | rfl | rfl | rfl | rfl | rfl | rfl | rfl | rfl | rfl | rfl | rfl | rfl
    · exact PySem.W.mg_none_of X G z_len
    · exact PySem.W.mg_none_of X G z_sum
    · exact PySem.W.mg_none_of X G z_max
    · exact PySem.W.mg_none_of X G z_min
    · exact PySem.W.mg_none_of X G z_abs
    · exact PySem.W.mg_none_of X G z_int
    · exact PySem.W.mg_none_of X G z_sorted
    · exact PySem.W.mg_none_of X G z_list
    · exact PySem.W.mg_none_of X G z_tuple
    · exact PySem.W.mg_none_of X G z_any
    · exact PySem.W.mg_none_of X G z_all
    · exact PySem.W.mg_none_of X G z_isinstance
    · exact PySem.W.mg_none_of X G z_range
    · exact PySem.W.mg_none_of X G z_bool
    · exact PySem.W.mg_none_of X G z_str
  have hs : ∀ c e k e2, Z.P.ers[c]? = some e → Z.P.ers[k]? = some e2 → PySem.W.subIn Z.K (.ref (Z.ec c)) (.ref (Z.ec k)) = some (e.ups.contains k) := by
    intro c e k e2 h1 h2
    have l1 : c < 3 := (List.getElem?_eq_some_iff.mp h1).1
    have l2 : k < 3 := (List.getElem?_eq_some_iff.mp h2).1
    match c, k, l1, l2, h1 with
    | 0, 0, _, _, h1 => cases h1; exact es0_0
    | 0, 1, _, _, h1 => cases h1; exact es0_1
    | 0, 2, _, _, h1 => cases h1; exact es0_2
    | 1, 0, _, _, h1 => cases h1; exact es1_0
    | 1, 1, _, _, h1 => cases h1; exact es1_1
    | 1, 2, _, _, h1 => cases h1; exact es1_2
    | 2, 0, _, _, h1 => cases h1; exact es2_0
    | 2, 1, _, _, h1 => cases h1; exact es2_1
    | 2, 2, _, _, h1 => cases h1; exact es2_2
  have T : TxtG Z PySem.Challenge.pw_whoevercomes_k30_hindsight_and_nested_sk w mg base := txt_of D C E hb hs (show P.nms.Nodup by decide +kernel)
  have D0 : DefG Z mg 34 f34 st34 _ := ⟨FL, sc34, by decide, ck34, FL.binds (ps := f34.names.take f34.np) fun _ _ _ _ _ _ us hl => match us, hl with | [_], _ => rfl, fun _ => hfa⟩
  exact fn_all T n 34 f34 st34 _ rfl D0
end K30T

/-! GRun -/
set_option maxRecDepth 100000
set_option maxHeartbeats 4000000
namespace G
abbrev hk {α : Sort u} (_ : α) : Unit := ()
class Hold (a : Unit) : Type where
instance (a : Unit) : Hold a := {}
def Res.zbind {α β : Type} (r : Res α) (f : α → Store → Res β) [Hold (hk f)] : Res β := r.bind f
@[simp] theorem zbind_ok {α β : Type} {a : α} {M : Store} {f : α → Store → Res β} [Hold (hk f)] : (Res.ok a M).zbind f = f a M := id rfl
@[simp] theorem zbind_err {α β : Type} {c : Nat} {fs : List D} {M : Store} {f : α → Store → Res β} [Hold (hk f)] : (Res.err c fs M : Res α).zbind f = .err c fs M := id rfl
@[simp] theorem zbind_stuck {α β : Type} {f : α → Store → Res β} [Hold (hk f)] : (Res.stuck : Res α).zbind f = .stuck := id rfl
def zwith {α : Type} (r : Res α) (ρ : Rho) (f : α → Store → Out) [Hold (hk f)] : Out := withE r ρ f
@[simp] theorem zwith_ok {α : Type} {a : α} {M : Store} {ρ : Rho} {f : α → Store → Out} [Hold (hk f)] : zwith (.ok a M) ρ f = f a M := id rfl
@[simp] theorem zwith_err {α : Type} {c : Nat} {fs : List D} {M : Store} {ρ : Rho} {f : α → Store → Out} [Hold (hk f)] : zwith (.err c fs M : Res α) ρ f = some (.er c fs ρ, M) := id rfl
@[simp] theorem zwith_stuck {α : Type} {ρ : Rho} {f : α → Store → Out} [Hold (hk f)] : zwith (.stuck : Res α) ρ f = none := id rfl
def zthen (o : Out) (f : Rho → Store → Out) [Hold (hk f)] : Out := andThen o f
@[simp] theorem zthen_nx {ρ : Rho} {M : Store} {f : Rho → Store → Out} [Hold (hk f)] : zthen (some (.nx ρ, M)) f = f ρ M := id rfl
@[simp] theorem zthen_rt {d : D} {M : Store} {f : Rho → Store → Out} [Hold (hk f)] : zthen (some (.rt d, M)) f = some (.rt d, M) := id rfl
@[simp] theorem zthen_bk {ρ : Rho} {M : Store} {f : Rho → Store → Out} [Hold (hk f)] : zthen (some (.bk ρ, M)) f = some (.bk ρ, M) := id rfl
@[simp] theorem zthen_ct {ρ : Rho} {M : Store} {f : Rho → Store → Out} [Hold (hk f)] : zthen (some (.ct ρ, M)) f = some (.ct ρ, M) := id rfl
@[simp] theorem zthen_er {c : Nat} {fs : List D} {ρ : Rho} {M : Store} {f : Rho → Store → Out} [Hold (hk f)] : zthen (some (.er c fs ρ, M)) f = some (.er c fs ρ, M) := id rfl
@[simp] theorem zthen_none {f : Rho → Store → Out} [Hold (hk f)] : zthen none f = none := id rfl
section
variable {α : Type}
def onB (x : D) (k : Bool → Res α) [Hold (hk k)] : Res α := match x with | .bl b => k b | _ => .stuck
def onI (x : D) (k : Int → Res α) [Hold (hk k)] : Res α := match x with | .int b => k b | _ => .stuck
def onO {β : Type} (x : Option β) (k : β → Res α) [Hold (hk k)] : Res α := match x with | some b => k b | none => .stuck
def onV (x : Option (Option D)) (k : D → Res α) [Hold (hk k)] : Res α := match x with | some (some d) => k d | _ => .stuck
def onL (x : Option Ob) (k : List D → Res α) [Hold (hk k)] : Res α := match x with | some (.lst xs) => k xs | _ => .stuck
def onN (x : Option Ob) (k : Nat → List (Nat × D) → Res α) [Hold (hk k)] : Res α := match x with | some (.ins c fs) => k c fs | _ => .stuck
def onP (x : D) (k : Nat → Res α) [Hold (hk k)] : Res α := match x with | .ptr n => k n | _ => .stuck
@[simp] theorem onB_bl {b : Bool} {k : Bool → Res α} : onB (.bl b) k = k b := id rfl
@[simp] theorem onI_int {b : Int} {k : Int → Res α} : onI (.int b) k = k b := id rfl
@[simp] theorem onO_some {β : Type} {b : β} {k : β → Res α} : onO (some b) k = k b := id rfl
@[simp] theorem onV_some {b : D} {k : D → Res α} : onV (some (some b)) k = k b := id rfl
@[simp] theorem onL_lst {b : List D} {k : List D → Res α} : onL (some (.lst b)) k = k b := id rfl
@[simp] theorem onN_ins {c : Nat} {fs : List (Nat × D)} {k : Nat → List (Nat × D) → Res α} : onN (some (.ins c fs)) k = k c fs := id rfl
@[simp] theorem onP_ptr {b : Nat} {k : Nat → Res α} : onP (.ptr b) k = k b := id rfl
end
def oI (x : D) (k : Int → Out) [Hold (hk k)] : Out := match x with | .int b => k b | _ => none
def oO {β : Type} (x : Option β) (k : β → Out) [Hold (hk k)] : Out := match x with | some b => k b | none => none
def oL (x : Option Ob) (k : List D → Out) [Hold (hk k)] : Out := match x with | some (.lst xs) => k xs | _ => none
def oN (x : Option Ob) (k : Nat → List (Nat × D) → Out) [Hold (hk k)] : Out := match x with | some (.ins c fs) => k c fs | _ => none
def oP (x : D) (k : Nat → Out) [Hold (hk k)] : Out := match x with | .ptr n => k n | _ => none
def oD (x : Option (Option D)) (k : D → Out) [Hold (hk k)] : Out := match x with | some (some d) => k d | _ => none
@[simp] theorem oI_int {b : Int} {k : Int → Out} : oI (.int b) k = k b := id rfl
@[simp] theorem oO_some {β : Type} {b : β} {k : β → Out} : oO (some b) k = k b := id rfl
@[simp] theorem oL_lst {b : List D} {k : List D → Out} : oL (some (.lst b)) k = k b := id rfl
@[simp] theorem oN_ins {c : Nat} {fs : List (Nat × D)} {k : Nat → List (Nat × D) → Out} : oN (some (.ins c fs)) k = k c fs := id rfl
@[simp] theorem oP_ptr {b : Nat} {k : Nat → Out} : oP (.ptr b) k = k b := id rfl
@[simp] theorem oD_some {b : D} {k : D → Out} : oD (some (some b)) k = k b := id rfl
section
variable {P : Pg} {w : Nat} {cf : Nat → List D → Store → Res D} {ρ : Rho} {M : Store}
@[simp] theorem rE_non : runE P w cf ρ .non M = .ok .non M := id rfl
@[simp] theorem rE_bl {b : Bool} : runE P w cf ρ (.bl b) M = .ok (.bl b) M := id rfl
@[simp] theorem rE_int {i : Int} : runE P w cf ρ (.int i) M = .ok (.int i) M := id rfl
@[simp] theorem rE_str {x : PySem.Str} : runE P w cf ρ (.str x) M = .ok (.str x) M := id rfl
@[simp] theorem rE_v {i : Nat} : runE P w cf ρ (.v i) M = onV ρ[i]? fun d => .ok d M := by
  show (match ρ[i]? with | some (some d) => Res.ok d M | _ => .stuck) = _
  cases ρ[i]? with
  | none => rfl
  | some o => cases o <;> rfl
@[simp] theorem rE_bin {o : Bop} {a b : Xp} : runE P w cf ρ (.bin o a b) M = (runE P w cf ρ a M).zbind fun x M1 => (runE P w cf ρ b M1).zbind fun y M2 => binop o x y M2 := id rfl
@[simp] theorem rE_neg {a : Xp} : runE P w cf ρ (.neg a) M = (runE P w cf ρ a M).zbind fun x M1 => onI x fun i => .ok (.int (-i)) M1 := by
  show (runE P w cf ρ a M).bind _ = (runE P w cf ρ a M).bind _
  first | rfl | (congr 1; funext x M1; cases x <;> rfl)
@[simp] theorem rE_notV {a : Xp} : runE P w cf ρ (.notV a) M = (runE P w cf ρ a M).zbind fun x M1 => onB x fun b => .ok (.bl (!b)) M1 := by
  show (runE P w cf ρ a M).bind _ = (runE P w cf ρ a M).bind _
  first | rfl | (congr 1; funext x M1; cases x <;> rfl)
@[simp] theorem rE_cmp {o : Cop} {a b : Xp} : runE P w cf ρ (.cmp o a b) M = (runE P w cf ρ a M).zbind fun x M1 => (runE P w cf ρ b M1).zbind fun y M2 => cmpop o x y M2 := id rfl
@[simp] theorem rE_and {as : Xps} : runE P w cf ρ (.andV as) M = runAnd P w cf ρ as M := id rfl
@[simp] theorem rE_or {as : Xps} : runE P w cf ρ (.orV as) M = runOr P w cf ρ as M := id rfl
@[simp] theorem rE_ife {t : Tp} {a b : Xp} : runE P w cf ρ (.ife t a b) M = (runT P w cf ρ t M).zbind fun k M1 => if k = true then runE P w cf ρ a M1 else runE P w cf ρ b M1 := by
  show (runT P w cf ρ t M).bind _ = (runT P w cf ρ t M).bind _
  first | rfl | (congr 1; funext k M1; cases k <;> rfl)
@[simp] theorem rE_call {f : Nat} {as : Xps} : runE P w cf ρ (.call f as) M = (runA P w cf ρ as M).zbind fun xs M1 => cf f xs M1 := id rfl
@[simp] theorem rE_mk {c : Nat} {as : Xps} : runE P w cf ρ (.mk c as) M = (runA P w cf ρ as M).zbind fun xs M1 => onO P.cls[c]? fun k => (cf k.init (.ptr M1.length :: xs) (M1 ++ [.ins c []])).zbind fun r M2 => if r matches .non then .ok (.ptr M1.length) M2 else .stuck := by
  show (runA P w cf ρ as M).bind _ = (runA P w cf ρ as M).bind _
  congr 1; funext x M1
  cases P.cls[c]? with
  | none => rfl
  | some k =>
    show (cf k.init (.ptr M1.length :: x) (M1 ++ [.ins c []])).bind _ = (cf k.init (.ptr M1.length :: x) (M1 ++ [.ins c []])).bind _
    congr 1; funext r M2
    cases r <;> rfl
@[simp] theorem rE_meth {o : Xp} {m : Nat} {as : Xps} : runE P w cf ρ (.meth o m as) M = (runE P w cf ρ o M).zbind fun x M1 => onP x fun n => onN M1[n]? fun c fs => onO ((P.cls[c]?).bind fun k => findM m k.meths) fun g =>
    if getF m fs = none then (runA P w cf ρ as M1).zbind fun xs M2 => cf g (.ptr n :: xs) M2 else .stuck := by
  show (runE P w cf ρ o M).bind _ = (runE P w cf ρ o M).bind _
  congr 1; funext x M1
  cases x with
  | ptr n =>
    simp only [onP_ptr]
    cases h : M1[n]? with
    | none => rfl
    | some ob =>
      cases ob with
      | ins c fs =>
        simp only [onN_ins]
        cases h2 : (P.cls[c]?).bind fun k => findM m k.meths with
        | none => rfl
        | some g =>
          simp only [onO_some]
          cases h3 : getF m fs <;> rfl
      | _ => rfl
  | _ => rfl
@[simp] theorem rE_bi {f : Bi} {as : Xps} : runE P w cf ρ (.bi f as) M = (runA P w cf ρ as M).zbind fun xs M1 => birun f xs M1 := id rfl
@[simp] theorem rE_bm {f : Bm} {o : Xp} {as : Xps} : runE P w cf ρ (.bm f o as) M = (runE P w cf ρ o M).zbind fun x M1 => if (listOf M1 x).isSome = true then (runA P w cf ρ as M1).zbind fun xs M2 => bmrun f x xs M2 else .stuck := by
  show (runE P w cf ρ o M).bind _ = (runE P w cf ρ o M).bind _
  first | rfl | (congr 1; funext x M1; cases (listOf M1 x).isSome <;> rfl)
@[simp] theorem rE_isi {a : Xp} {t : Ty} : runE P w cf ρ (.isi a t) M = (runE P w cf ρ a M).zbind fun x M1 => onO (isTy M1 t x) fun b => .ok (.bl b) M1 := by
  show (runE P w cf ρ a M).bind _ = (runE P w cf ρ a M).bind _
  first | rfl | (congr 1; funext x M1; cases isTy M1 t x <;> rfl)
@[simp] theorem rE_fld {o : Xp} {f : Nat} : runE P w cf ρ (.fld o f) M = (runE P w cf ρ o M).zbind fun x M1 => onP x fun n => onN M1[n]? fun c fs => if hasF P c f = true then onO (getF f fs) fun v => .ok v M1 else .stuck := by
  show (runE P w cf ρ o M).bind _ = (runE P w cf ρ o M).bind _
  congr 1; funext x M1
  cases x with
  | ptr n =>
    simp only [onP_ptr]
    cases h : M1[n]? with
    | none => rfl
    | some ob =>
      cases ob with
      | ins c fs =>
        simp only [onN_ins]
        cases h2 : hasF P c f
        · rfl
        · cases h3 : getF f fs <;> rfl
      | _ => rfl
  | _ => rfl
@[simp] theorem rE_ix {o i : Xp} : runE P w cf ρ (.ix o i) M = (runE P w cf ρ o M).zbind fun x M1 => (runE P w cf ρ i M1).zbind fun y M2 => ixd M2 x y := id rfl
@[simp] theorem rE_sl {o : Xp} {lo hi : Op} : runE P w cf ρ (.sl o lo hi) M = (runE P w cf ρ o M).zbind fun x M1 => (runO P w cf ρ lo M1).zbind fun l M2 => (runO P w cf ρ hi M2).zbind fun h M3 => sld M3 x l h := id rfl
@[simp] theorem rE_tup {as : Xps} : runE P w cf ρ (.tup as) M = (runA P w cf ρ as M).zbind fun xs M1 => if xs.length ≤ big then .ok (.tup xs) M1 else .stuck := id rfl
@[simp] theorem rE_lst {hot : Bool} {as : Xps} : runE P w cf ρ (.lst hot as) M = (runA P w cf ρ as M).zbind fun xs M1 => if xs.length ≤ big then newL hot xs M1 else .stuck := id rfl
/-- a comprehension's turn -/
def lcT (P : Pg) (w : Nat) (cf : Nat → List D → Store → Res D) (ρ : Rho) (g : Gp) (t : Tps) (e : Xp) : D → Store → Res (Option D) := fun x M => onO (bindG g x (wipeR ρ (gslots g))) fun ρ' =>
    ((runTs P w cf ρ' t M).noerr).zbind fun b M2 => if b = true then ((runE P w cf ρ' e M2).noerr).zbind fun y M3 => .ok (some y) M3 else .ok none M2
def lcW (f : D → Store → Res (Option D)) (w : Nat) (k : Wk) (M : Store) : Res (List D) := match k with
  | .items xs => lcA f xs [] M
  | .hot n => lcH n f w 0 [] M
@[simp] theorem lcW_items {f : D → Store → Res (Option D)} {xs : List D} : lcW f w (.items xs) M = lcA f xs [] M := id rfl
@[simp] theorem lcW_hot {f : D → Store → Res (Option D)} {n : Nat} : lcW f w (.hot n) M = lcH n f w 0 [] M := id rfl
@[simp] theorem rE_lc {hot : Bool} {g : Gp} {it : Ip} {t : Tps} {e : Xp} : runE P w cf ρ (.lc hot g it t e) M = (runI P w cf ρ it M).zbind fun k M1 => (lcW (lcT P w cf ρ g t e) w k M1).zbind fun ys M2 => newL hot ys M2 := by
  have hf : (fun x M => match bindG g x (wipeR ρ (gslots g)) with
      | some ρ' => ((runTs P w cf ρ' t M).noerr).bind fun b M2 => match b with
        | true => ((runE P w cf ρ' e M2).noerr).bind fun y M3 => Res.ok (some y) M3
        | false => .ok none M2
      | none => .stuck) = lcT P w cf ρ g t e := by
    funext x M
    unfold lcT
    cases bindG g x (wipeR ρ (gslots g)) with
    | none => rfl
    | some ρ' =>
      simp only [onO_some]
      show Res.bind _ _ = Res.bind _ _
      first | rfl | (congr 1; funext b M2; cases b <;> rfl)
  show (runI P w cf ρ it M).bind _ = (runI P w cf ρ it M).bind _
  congr 1; funext k M1
  rw [← hf]
  cases k <;> rfl
def frzD (x : D) (M : Store) : Res D := match x with
  | .ptr n => onL M[n]? fun xs => .ok (.lst xs) (M.set n .dead)
  | d => .ok d M
@[simp] theorem frz_ptr {n : Nat} : frzD (.ptr n) M = onL M[n]? fun xs => .ok (.lst xs) (M.set n .dead) := id rfl
@[simp] theorem frz_lst {xs : List D} : frzD (.lst xs) M = .ok (.lst xs) M := id rfl
@[simp] theorem rE_frz {e : Xp} : runE P w cf ρ (.frz e) M = (runE P w cf ρ e M).zbind fun x M1 => frzD x M1 := by
  show (runE P w cf ρ e M).bind _ = (runE P w cf ρ e M).bind _
  refine congrArg _ (funext fun x => funext fun M1 => ?_)
  cases x with
  | ptr n =>
    show (match M1[n]? with | some (.lst xs) => Res.ok (D.lst xs) (M1.set n .dead) | _ => .stuck) = onL M1[n]? _
    cases h : M1[n]? with
    | none => rfl
    | some ob => cases ob <;> rfl
  | _ => rfl
def lrgI (hot : Bool) (i : Int) (M : Store) : Res D := if -16777216 ≤ i ∧ i ≤ 16777216 then newL hot (rngOf 0 i) M else .stuck
theorem lrgI_nat {hot : Bool} {k : Nat} (h : k ≤ 16777216) : lrgI hot (k : Int) M = newL hot ((List.range k).map fun (i : Nat) => D.int (i : Int)) M := by
  have e : rngOf 0 (k : Int) = (List.range k).map fun (i : Nat) => D.int (i : Int) := by
    unfold rngOf
    simp
  unfold lrgI
  rw [if_pos (by omega), e]
@[simp] theorem rE_lrg {hot : Bool} {a : Xp} : runE P w cf ρ (.lrg hot a) M = (runE P w cf ρ a M).zbind fun x M1 => onI x fun i => lrgI hot i M1 := by
  show (runE P w cf ρ a M).bind _ = (runE P w cf ρ a M).bind _
  refine congrArg _ (funext fun x => funext fun M1 => ?_)
  cases x <;> rfl
def lrgIJ (hot : Bool) (i j : Int) (M : Store) : Res D := if rngOk i j ∧ j - i ≤ 16777216 then newL hot (rngOf i j) M else .stuck
@[simp] theorem rE_lrg2 {hot : Bool} {a b : Xp} : runE P w cf ρ (.lrg2 hot a b) M = (runE P w cf ρ a M).zbind fun x M1 => (runE P w cf ρ b M1).zbind fun y M2 => onI x fun i => onI y fun j => lrgIJ hot i j M2 := by
  show (runE P w cf ρ a M).bind _ = (runE P w cf ρ a M).bind _
  refine congrArg _ (funext fun x => funext fun M1 => ?_)
  show (runE P w cf ρ b M1).bind _ = (runE P w cf ρ b M1).bind _
  refine congrArg _ (funext fun y => funext fun M2 => ?_)
  cases x <;> cases y <;> rfl
def trgI (i : Int) (M : Store) : Res D := if -16777216 ≤ i ∧ i ≤ 16777216 then .ok (.tup (rngOf 0 i)) M else .stuck
@[simp] theorem rE_trg {a : Xp} : runE P w cf ρ (.trg a) M = (runE P w cf ρ a M).zbind fun x M1 => onI x fun i => trgI i M1 := by
  show (runE P w cf ρ a M).bind _ = (runE P w cf ρ a M).bind _
  refine congrArg _ (funext fun x => funext fun M1 => ?_)
  cases x <;> rfl
@[simp] theorem rE_dnew {tk : Bool} : runE P w cf ρ (.dnew tk) M = .ok (.ptr M.length) (M ++ [.dic tk []]) := id rfl
@[simp] theorem rA_nil : runA P w cf ρ .nil M = .ok [] M := id rfl
@[simp] theorem rA_cons {e : Xp} {r : Xps} : runA P w cf ρ (.cons e r) M = (runE P w cf ρ e M).zbind fun x M1 => (runA P w cf ρ r M1).zbind fun xs M2 => .ok (x :: xs) M2 := id rfl
@[simp] theorem rO_no : runO P w cf ρ .no M = .ok none M := id rfl
@[simp] theorem rO_so {e : Xp} : runO P w cf ρ (.so e) M = (runE P w cf ρ e M).zbind fun x M1 => onI x fun i => .ok (some i) M1 := by
  show (runE P w cf ρ e M).bind _ = (runE P w cf ρ e M).bind _
  first | rfl | (congr 1; funext x M1; cases x <;> rfl)
@[simp] theorem rAnd_1 {e : Xp} : runAnd P w cf ρ (.cons e .nil) M = runE P w cf ρ e M := id rfl
@[simp] theorem rAnd_2 {e e2 : Xp} {r : Xps} : runAnd P w cf ρ (.cons e (.cons e2 r)) M = (runE P w cf ρ e M).zbind fun x M1 => onB x fun b => if b = true then runAnd P w cf ρ (.cons e2 r) M1 else .ok (.bl false) M1 := by
  show (runE P w cf ρ e M).bind _ = (runE P w cf ρ e M).bind _
  congr 1; funext x M1
  cases x with
  | bl b => cases b <;> rfl
  | _ => rfl
@[simp] theorem rOr_1 {e : Xp} : runOr P w cf ρ (.cons e .nil) M = runE P w cf ρ e M := id rfl
@[simp] theorem rOr_2 {e e2 : Xp} {r : Xps} : runOr P w cf ρ (.cons e (.cons e2 r)) M = (runE P w cf ρ e M).zbind fun x M1 => onB x fun b => if b = true then .ok (.bl true) M1 else runOr P w cf ρ (.cons e2 r) M1 := by
  show (runE P w cf ρ e M).bind _ = (runE P w cf ρ e M).bind _
  congr 1; funext x M1
  cases x with
  | bl b => cases b <;> rfl
  | _ => rfl
@[simp] theorem rT_val {e : Xp} : runT P w cf ρ (.val e) M = (runE P w cf ρ e M).zbind fun x M1 => onO (truth M1 x) fun b => .ok b M1 := by
  show (runE P w cf ρ e M).bind _ = (runE P w cf ρ e M).bind _
  first | rfl | (congr 1; funext x M1; cases truth M1 x <;> rfl)
@[simp] theorem rT_cmp {o : Cop} {a b : Xp} : runT P w cf ρ (.cmp o a b) M = (runE P w cf ρ a M).zbind fun x M1 => (runE P w cf ρ b M1).zbind fun y M2 => (cmpop o x y M2).zbind fun z M3 => onB z fun k => .ok k M3 := by
  show (runE P w cf ρ a M).bind _ = (runE P w cf ρ a M).bind _
  first | rfl | (congr 1; funext x M1; congr 1; funext y M2; congr 1; funext z M3; cases z <;> rfl)
@[simp] theorem rT_not {t : Tp} : runT P w cf ρ (.tnot t) M = (runT P w cf ρ t M).zbind fun k M1 => .ok (!k) M1 := id rfl
@[simp] theorem rT_and {t : Tps} : runT P w cf ρ (.tand t) M = runTs P w cf ρ t M := id rfl
@[simp] theorem rT_or {t : Tps} : runT P w cf ρ (.tor t) M = runTo P w cf ρ t M := id rfl
@[simp] theorem rTs_0 : runTs P w cf ρ .nil M = .ok true M := id rfl
@[simp] theorem rTs_1 {t : Tp} : runTs P w cf ρ (.cons t .nil) M = runT P w cf ρ t M := id rfl
@[simp] theorem rTs_2 {t t2 : Tp} {r : Tps} : runTs P w cf ρ (.cons t (.cons t2 r)) M = (runT P w cf ρ t M).zbind fun k M1 => if k = true then runTs P w cf ρ (.cons t2 r) M1 else .ok false M1 := by
  show (runT P w cf ρ t M).bind _ = (runT P w cf ρ t M).bind _
  first | rfl | (congr 1; funext k M1; cases k <;> rfl)
@[simp] theorem rTo_1 {t : Tp} : runTo P w cf ρ (.cons t .nil) M = runT P w cf ρ t M := id rfl
@[simp] theorem rTo_2 {t t2 : Tp} {r : Tps} : runTo P w cf ρ (.cons t (.cons t2 r)) M = (runT P w cf ρ t M).zbind fun k M1 => if k = true then .ok true M1 else runTo P w cf ρ (.cons t2 r) M1 := by
  show (runT P w cf ρ t M).bind _ = (runT P w cf ρ t M).bind _
  first | rfl | (congr 1; funext k M1; cases k <;> rfl)
@[simp] theorem rI_val {e : Xp} : runI P w cf ρ (.val e) M = (runE P w cf ρ e M).zbind fun x M1 => onO (walkOf M1 x) fun k => .ok k M1 := by
  show (runE P w cf ρ e M).bind _ = (runE P w cf ρ e M).bind _
  first | rfl | (congr 1; funext x M1; cases walkOf M1 x <;> rfl)
def rngI (i : Int) (M : Store) : Res Wk := if rngOk 0 i then .ok (.items (rngOf 0 i)) M else .stuck
@[simp] theorem rI_rng1 {a : Xp} : runI P w cf ρ (.rng1 a) M = (runE P w cf ρ a M).zbind fun x M1 => onI x fun i => rngI i M1 := by
  show (runE P w cf ρ a M).bind _ = (runE P w cf ρ a M).bind _
  refine congrArg _ (funext fun x => funext fun M1 => ?_)
  cases x <;> rfl
theorem rngI_nat {k : Nat} (h : k ≤ 16777216) : rngI (k : Int) M = .ok (.items ((List.range k).map fun (i : Nat) => D.int (i : Int))) M := by
  have hr : rngOk 0 (k : Int) = true := by
    simp only [rngOk, Bool.and_eq_true, decide_eq_true_eq]
    omega
  have e : rngOf 0 (k : Int) = (List.range k).map fun (i : Nat) => D.int (i : Int) := by
    unfold rngOf
    simp
  unfold rngI
  rw [if_pos hr, e]
@[simp] theorem rSs_nil : runSs P w cf .nil ρ M = some (.nx ρ, M) := id rfl
@[simp] theorem rSs_cons {s : Sm} {r : Sms} : runSs P w cf (.cons s r) ρ M = zthen (runS P w cf s ρ M) fun ρ' M' => runSs P w cf r ρ' M' := id rfl
@[simp] theorem rS_asg {i : Nat} {e : Xp} : runS P w cf (.asg (.n i) e) ρ M = zwith (runE P w cf ρ e M) ρ fun d M1 => some (.nx (ρ.set i (some d)), M1) := id rfl
@[simp] theorem rS_asgT {gs : List Nat} {e : Xp} : runS P w cf (.asg (.t gs) e) ρ M = zwith (runE P w cf ρ e M) ρ fun d M1 => oO (bindG (.t gs) d ρ) fun ρ' => some (.nx ρ', M1) := by
  show withE (runE P w cf ρ e M) ρ _ = withE (runE P w cf ρ e M) ρ _
  first | rfl | (congr 1; funext d M1; cases bindG (.t gs) d ρ <;> rfl)
@[simp] theorem rS_ex {e : Xp} : runS P w cf (.ex e) ρ M = zwith (runE P w cf ρ e M) ρ fun _ M1 => some (.nx ρ, M1) := id rfl
@[simp] theorem rS_ite {t : Tp} {a b : Sms} : runS P w cf (.ite t a b) ρ M = zwith (runT P w cf ρ t M) ρ fun k M1 => if k = true then runSs P w cf a ρ M1 else runSs P w cf b ρ M1 := by
  show withE (runT P w cf ρ t M) ρ _ = withE (runT P w cf ρ t M) ρ _
  first | rfl | (congr 1; funext k M1; cases k <;> rfl)
/-- a loop's turn -/
def foT (P : Pg) (w : Nat) (cf : Nat → List D → Store → Res D) (g : Gp) (b : Sms) : D → Rho → Store → Out := fun x ρ M => oO (bindG g x ρ) fun ρ' => runSs P w cf b ρ' M
def foW (f : D → Rho → Store → Out) (w : Nat) (k : Wk) (ρ : Rho) (M : Store) : Out := match k with
  | .items xs => forL f xs ρ M
  | .hot n => forH n f w 0 ρ M
@[simp] theorem foW_items {f : D → Rho → Store → Out} {xs : List D} : foW f w (.items xs) ρ M = forL f xs ρ M := id rfl
@[simp] theorem foW_hot {f : D → Rho → Store → Out} {n : Nat} : foW f w (.hot n) ρ M = forH n f w 0 ρ M := id rfl
@[simp] theorem rS_fo {g : Gp} {it : Ip} {b : Sms} : runS P w cf (.fo g it b) ρ M = zwith (runI P w cf ρ it M) ρ fun k M1 => foW (foT P w cf g b) w k ρ M1 := by
  have hf : (fun x ρ M => match bindG g x ρ with | some ρ' => runSs P w cf b ρ' M | none => none) = foT P w cf g b := by
    funext x ρ M
    unfold foT
    cases bindG g x ρ <;> rfl
  show withE (runI P w cf ρ it M) ρ _ = withE (runI P w cf ρ it M) ρ _
  congr 1; funext k M1
  rw [← hf]
  cases k <;> rfl
/-- a loop over a dict -/
def fodW (f : D → Rho → Store → Out) (o : Option (Option D)) (ρ : Rho) (M : Store) : Out := match o with
  | some (some (.ptr n)) => match M[n]? with
    | some (.dic tk kvs) => unlk n (forL f (kvs.map (·.1)) ρ (M.set n (.fdic tk kvs)))
    | _ => none
  | _ => none
theorem fodW_dic {f : D → Rho → Store → Out} {n : Nat} {tk : Bool} {kvs : List (D × D)} (h : M[n]? = some (.dic tk kvs)) : fodW f (some (some (.ptr n))) ρ M = unlk n (forL f (kvs.map (·.1)) ρ (M.set n (.fdic tk kvs))) := by
  simp only [fodW, h]
@[simp] theorem rS_fod {g : Gp} {i : Nat} {b : Sms} : runS P w cf (.fod g i b) ρ M = fodW (foT P w cf g b) ρ[i]? ρ M := by
  have hf : (fun x ρ M => match bindG g x ρ with | some ρ' => runSs P w cf b ρ' M | none => none) = foT P w cf g b := by
    funext x ρ M
    unfold foT
    cases bindG g x ρ <;> rfl
  show (match ρ[i]? with
    | some (some (.ptr n)) => match M[n]? with
      | some (.dic tk kvs) => unlk n (forL (fun x ρ M => match bindG g x ρ with
        | some ρ' => runSs P w cf b ρ' M
        | none => none) (List.map (fun p : D × D => p.1) kvs) ρ (M.set n (.fdic tk kvs)))
      | _ => none
    | _ => none) = _
  rw [hf]
  rfl
@[simp] theorem rS_ret {e : Xp} : runS P w cf (.ret e) ρ M = zwith (runE P w cf ρ e M) ρ fun d M1 => some (.rt d, M1) := id rfl
@[simp] theorem rS_rais {c : Nat} {as : Xps} : runS P w cf (.rais c as) ρ M = zwith (runA P w cf ρ as M) ρ fun xs M1 => oO P.ers[c]? fun e => if xs.length = e.flds.length then some (.er c xs.reverse ρ, M1) else none := by
  show withE (runA P w cf ρ as M) ρ _ = withE (runA P w cf ρ as M) ρ _
  first | rfl | (congr 1; funext xs M1; cases P.ers[c]? <;> rfl)
/-- a place of a list or a dict is set -/
def asgD (ob : Option Ob) (n : Nat) (y d : D) (ρ : Rho) (M : Store) : Out := match ob with
  | some (.lst xs) => match y with
    | .int k => match L2.ixN xs.length k with
      | some j => some (.nx ρ, M.set n (.lst (xs.set j d)))
      | none => none
    | _ => none
  | some (.dic tk kvs) => if isKey tk y ∧ kvs.length < big then some (.nx ρ, M.set n (.dic tk (dput kvs y d))) else none
  | _ => none
@[simp] theorem asgD_lst {xs : List D} {n : Nat} {k : Int} {d : D} : asgD (some (.lst xs)) n (.int k) d ρ M = oO (L2.ixN xs.length k) fun j => some (.nx ρ, M.set n (.lst (xs.set j d))) := by
  show (match L2.ixN xs.length k with | some j => some (Fl.nx ρ, M.set n (.lst (xs.set j d))) | none => none) = _
  cases L2.ixN xs.length k <;> rfl
@[simp] theorem asgD_dic {tk : Bool} {kvs : List (D × D)} {n : Nat} {y d : D} : asgD (some (.dic tk kvs)) n y d ρ M = if isKey tk y ∧ kvs.length < big then some (.nx ρ, M.set n (.dic tk (dput kvs y d))) else none := id rfl
@[simp] theorem rS_asgI {o i e : Xp} : runS P w cf (.asgI o i e) ρ M = zwith (runE P w cf ρ e M) ρ fun d M1 => zwith (runE P w cf ρ o M1) ρ fun x M2 => zwith (runE P w cf ρ i M2) ρ fun y M3 =>
    oP x fun n => asgD M3[n]? n y d ρ M3 := by
  show withE (runE P w cf ρ e M) ρ _ = withE (runE P w cf ρ e M) ρ _
  congr 1; funext d M1; congr 1; funext x M2; congr 1; funext y M3
  cases x <;> rfl
@[simp] theorem rS_augI {o i e : Xp} {op : Bop} : runS P w cf (.augI o i op e) ρ M = zwith (runE P w cf ρ o M) ρ fun x M1 => zwith (runE P w cf ρ i M1) ρ fun y M2 =>
    oP x fun n => oI y fun k => oL M2[n]? fun xs => oO (L2.atI xs k) fun u => oI u fun a => zwith (runE P w cf ρ e M2) ρ fun z M3 => oI z fun b => oL M3[n]? fun ys => oO (L2.ixN ys.length k) fun j =>
      match op with
      | .add => some (.nx ρ, M3.set n (.lst (ys.set j (.int (a + b)))))
      | .sub => some (.nx ρ, M3.set n (.lst (ys.set j (.int (a - b)))))
      | _ => none := by
  show withE (runE P w cf ρ o M) ρ _ = withE (runE P w cf ρ o M) ρ _
  congr 1; funext x M1; congr 1; funext y M2
  cases x with
  | ptr n =>
    cases y with
    | int k =>
      simp only [oP_ptr, oI_int]
      cases h : M2[n]? with
      | none => rfl
      | some ob =>
        cases ob with
        | lst xs =>
          simp only [oL_lst]
          cases h2 : L2.atI xs k with
          | none => rfl
          | some u =>
            simp only [oO_some]
            cases u with
            | int a =>
              simp only [oI_int]
              congr 1; funext z M3
              cases z with
              | int b =>
                simp only [oI_int]
                cases h : M3[n]? with
                | none => rfl
                | some ob =>
                  cases ob with
                  | lst ys =>
                    simp only [oL_lst]
                    cases L2.ixN ys.length k with
                    | none => rfl
                    | some j => cases op <;> rfl
                  | _ => rfl
              | _ => rfl
            | _ => rfl
        | _ => rfl
    | _ => rfl
  | _ => rfl
@[simp] theorem rS_asgF {o e : Xp} {f : Nat} : runS P w cf (.asgF o f e) ρ M = zwith (runE P w cf ρ e M) ρ fun d M1 => zwith (runE P w cf ρ o M1) ρ fun x M2 => oP x fun n => oN M2[n]? fun c fs =>
    if hasF P c f ∧ fs.length < 900 then some (.nx ρ, M2.set n (.ins c (setF f d fs))) else none := by
  show withE (runE P w cf ρ e M) ρ _ = withE (runE P w cf ρ e M) ρ _
  refine congrArg _ (funext fun d => funext fun M1 => congrArg _ (funext fun x => funext fun M2 => ?_))
  cases x with
  | ptr n =>
    simp only [oP_ptr]
    cases h : M2[n]? with
    | none => rfl
    | some ob => cases ob <;> rfl
  | _ => rfl
theorem rS_tr {b : Sms} {hs : List (Nat × Nat × Hx)} : runS P w cf (.tr b hs) ρ M = match runSs P w cf b ρ M with | some (.er c fs ρ', M') => handle P c fs ρ' M' hs | o => o := id rfl
theorem callF_eq {n f : Nat} {k : Fn} {as : List D} (hk : P.fns[f]? = some k) (hl : as.length = k.np) :
    callF P w (n + 1) f as M = finish k.trunc M (runSs P w (callF P w n) k.body (as.map some ++ List.replicate (k.names.length - k.np) none) M) := by
  rw [callF, hk]; simp [hl]
def lenD (o : Option (List D)) (p : Option (Bool × List (D × D))) (M : Store) : Res D := match o with
  | some xs => .ok (.int xs.length) M
  | none => match p with
    | some kv => .ok (.int kv.2.length) M
    | none => .stuck
@[simp] theorem lenD_seq {xs : List D} {p : Option (Bool × List (D × D))} : lenD (some xs) p M = .ok (.int xs.length) M := id rfl
@[simp] theorem lenD_dic {tk : Bool} {kvs : List (D × D)} : lenD none (some (tk, kvs)) M = .ok (.int kvs.length) M := id rfl
def obDN : Option Ob → Option (Bool × List (D × D)) | some (.dic tk kvs) => some (tk, kvs) | _ => none
@[simp] theorem obDN_dic {tk : Bool} {kvs : List (D × D)} : obDN (some (.dic tk kvs)) = some (tk, kvs) := id rfl
@[simp] theorem obDN_lst {xs : List D} : obDN (some (.lst xs)) = none := id rfl
@[simp] theorem dicN_ptr {n : Nat} : dicN M (.ptr n) = obDN M[n]? := id rfl
def obD : Option Ob → Option (Bool × List (D × D)) | some (.dic tk kvs) => some (tk, kvs) | some (.fdic tk kvs) => some (tk, kvs) | _ => none
@[simp] theorem obD_dic {tk : Bool} {kvs : List (D × D)} : obD (some (.dic tk kvs)) = some (tk, kvs) := id rfl
@[simp] theorem obD_fdic {tk : Bool} {kvs : List (D × D)} : obD (some (.fdic tk kvs)) = some (tk, kvs) := id rfl
@[simp] theorem obD_lst {xs : List D} : obD (some (.lst xs)) = none := id rfl
@[simp] theorem dicOf_ptr {n : Nat} : dicOf M (.ptr n) = obD M[n]? := id rfl
@[simp] theorem dicOf_lst {xs : List D} : dicOf M (.lst xs) = none := id rfl
@[simp] theorem dicOf_tup {xs : List D} : dicOf M (.tup xs) = none := id rfl
@[simp] theorem dicOf_scr {xs : List Int} : dicOf M (.scr xs) = none := id rfl
@[simp] theorem bi_len {x : D} : birun .len [x] M = lenD (seqOf M x) (dicN M x) M := id rfl
@[simp] theorem bi_sum {x : D} : birun .sum [x] M = onO ((seqOf M x).bind intsOf) fun ns => .ok (.int ns.sum) M := by
  show (match (seqOf M x).bind intsOf with | some ns => Res.ok (D.int ns.sum) M | none => .stuck) = _
  cases (seqOf M x).bind intsOf <;> rfl
@[simp] theorem bi_max1 {x : D} : birun .max1 [x] M = onO (((seqOf M x).bind intsOf).bind maxOf) fun m => .ok (.int m) M := by
  show (match ((seqOf M x).bind intsOf).bind maxOf with | some m => Res.ok (D.int m) M | none => .stuck) = _
  cases ((seqOf M x).bind intsOf).bind maxOf <;> rfl
@[simp] theorem bi_min1 {x : D} : birun .min1 [x] M = onO (((seqOf M x).bind intsOf).bind minOf) fun m => .ok (.int m) M := by
  show (match ((seqOf M x).bind intsOf).bind minOf with | some m => Res.ok (D.int m) M | none => .stuck) = _
  cases ((seqOf M x).bind intsOf).bind minOf <;> rfl
@[simp] theorem bi_max2 {i j : Int} : birun .max2 [.int i, .int j] M = .ok (.int (if j > i then j else i)) M := id rfl
@[simp] theorem bi_min2 {i j : Int} : birun .min2 [.int i, .int j] M = .ok (.int (if j < i then j else i)) M := id rfl
@[simp] theorem bi_abs {i : Int} : birun .abs [.int i] M = .ok (.int (if i < 0 then -i else i)) M := id rfl
@[simp] theorem bi_int {i : Int} : birun .int [.int i] M = .ok (.int i) M := id rfl
def srtD (hot : Bool) (o : Option (List Int)) (p : Option (List (Int × Int))) (M : Store) : Res D := match o with
  | some ns => newL hot ((sortI ns).map D.int) M
  | none => match p with
    | some ps => newL hot ((sortP ps).map pairD) M
    | none => .stuck
@[simp] theorem srtD_i {hot : Bool} {ns : List Int} {p : Option (List (Int × Int))} : srtD hot (some ns) p M = newL hot ((sortI ns).map D.int) M := id rfl
@[simp] theorem srtD_p {hot : Bool} {ps : List (Int × Int)} : srtD hot none (some ps) M = newL hot ((sortP ps).map pairD) M := id rfl
@[simp] theorem bi_sorted {hot : Bool} {x : D} : birun (.sorted hot) [x] M = srtD hot ((listOf M x).bind intsOf) ((listOf M x).bind pairsOf) M := id rfl
def lstD (hot : Bool) (o : Option (List D)) (p : Option (Bool × List (D × D))) (M : Store) : Res D := match o with
  | some xs => newL hot xs M
  | none => match p with
    | some kv => newL hot (kv.2.map (·.1)) M
    | none => .stuck
@[simp] theorem lstD_seq {hot : Bool} {xs : List D} {p : Option (Bool × List (D × D))} : lstD hot (some xs) p M = newL hot xs M := id rfl
@[simp] theorem lstD_dic {hot : Bool} {tk : Bool} {kvs : List (D × D)} : lstD hot none (some (tk, kvs)) M = newL hot (kvs.map (·.1)) M := id rfl
@[simp] theorem bi_list {hot : Bool} {x : D} : birun (.list hot) [x] M = lstD hot (seqOf M x) (dicN M x) M := id rfl
@[simp] theorem bi_tuple {x : D} : birun .tuple [x] M = onO (seqOf M x) fun xs => .ok (.tup xs) M := by
  show (match seqOf M x with | some xs => Res.ok (D.tup xs) M | none => .stuck) = _
  cases seqOf M x <;> rfl
@[simp] theorem newL_f {xs : List D} : newL false xs M = .ok (.lst xs) M := id rfl
@[simp] theorem newL_t {xs : List D} : newL true xs M = .ok (.ptr M.length) (M ++ [.lst xs]) := id rfl
@[simp] theorem seqOf_lst {xs : List D} : seqOf M (.lst xs) = some xs := id rfl
@[simp] theorem seqOf_tup {xs : List D} : seqOf M (.tup xs) = some xs := id rfl
@[simp] theorem seqOf_scr {ns : List Int} : seqOf M (.scr ns) = some (ns.map D.int) := id rfl
def obL : Option Ob → Option (List D) | some (.lst xs) => some xs | _ => none
@[simp] theorem obL_lst {xs : List D} : obL (some (.lst xs)) = some xs := id rfl
@[simp] theorem obL_dic {tk : Bool} {kvs : List (D × D)} : obL (some (.dic tk kvs)) = none := id rfl
@[simp] theorem obL_fdic {tk : Bool} {kvs : List (D × D)} : obL (some (.fdic tk kvs)) = none := id rfl
@[simp] theorem seqOf_ptr {n : Nat} : seqOf M (.ptr n) = obL M[n]? := by
  show (match M[n]? with | some (.lst xs) => some xs | _ => none) = _
  cases M[n]? with
  | none => rfl
  | some ob => cases ob <;> rfl
@[simp] theorem listOf_lst {xs : List D} : listOf M (.lst xs) = some xs := id rfl
@[simp] theorem listOf_ptr {n : Nat} : listOf M (.ptr n) = obL M[n]? := by
  show (match M[n]? with | some (.lst xs) => some xs | _ => none) = _
  cases M[n]? with
  | none => rfl
  | some ob => cases ob <;> rfl
@[simp] theorem walk_lst {xs : List D} : walkOf M (.lst xs) = some (.items xs) := id rfl
@[simp] theorem walk_tup {xs : List D} : walkOf M (.tup xs) = some (.items xs) := id rfl
@[simp] theorem walk_scr {xs : List Int} : walkOf M (.scr xs) = some (.items (xs.map D.int)) := id rfl
theorem walk_ptr {n : Nat} {xs : List D} (h : M[n]? = some (.lst xs)) : walkOf M (.ptr n) = some (.hot n) := by
  simp only [walkOf, h]
@[simp] theorem bm_append {n : Nat} {y : D} : bmrun .append (.ptr n) [y] M = onL M[n]? fun xs => if xs.length < big then .ok .non (M.set n (.lst (xs ++ [y]))) else .stuck := by
  show (match M[n]? with | some (.lst xs) => if xs.length < big then Res.ok D.non (M.set n (.lst (xs ++ [y]))) else .stuck | _ => .stuck) = _
  cases M[n]? with
  | none => rfl
  | some ob => cases ob <;> rfl
def popI (n : Nat) (i : Int) (xs : List D) (M : Store) : Res D := if 0 ≤ i ∧ i ≤ 16777216 ∧ i < xs.length then onO xs[i.toNat]? fun y => .ok y (M.set n (.lst (xs.eraseIdx i.toNat))) else .stuck
theorem popI_ok {n : Nat} {i : Int} {xs : List D} {y : D} (h0 : 0 ≤ i) (h1 : i ≤ 16777216) (h : xs[i.toNat]? = some y) : popI n i xs M = .ok y (M.set n (.lst (xs.eraseIdx i.toNat))) := by
  have := (List.getElem?_eq_some_iff.mp h).1
  unfold popI
  rw [if_pos ⟨h0, by omega, by omega⟩, h]; rfl
@[simp] theorem bm_popAt {n : Nat} {i : Int} : bmrun .popAt (.ptr n) [.int i] M = onL M[n]? fun xs => popI n i xs M := by
  unfold popI
  show (match M[n]? with | some (.lst xs) => if 0 ≤ i ∧ i ≤ 16777216 ∧ i < xs.length then match xs[i.toNat]? with | some y => Res.ok y (M.set n (.lst (xs.eraseIdx i.toNat))) | none => .stuck else .stuck | _ => .stuck) = _
  cases M[n]? with
  | none => rfl
  | some ob =>
    cases ob with
    | lst xs =>
      simp only [onL_lst]
      congr 1
      cases xs[i.toNat]? <;> rfl
    | _ => rfl
def ixD (o : Option (Bool × List (D × D))) (p : Option (List D)) (y : D) (M : Store) : Res D := match o with
  | some kv => if isKey kv.1 y then match dget kv.2 y with
      | some v => .ok v M
      | none => .stuck
    else .stuck
  | none => match y with
    | .int i => match p with
      | some xs => match L2.atI xs i with
        | some v => .ok v M
        | none => .stuck
      | none => .stuck
    | _ => .stuck
@[simp] theorem ixD_seq {xs : List D} {i : Int} : ixD none (some xs) (.int i) M = onO (L2.atI xs i) fun v => .ok v M := by
  show (match L2.atI xs i with | some v => Res.ok v M | none => .stuck) = _
  cases L2.atI xs i <;> rfl
@[simp] theorem ixD_dic {tk : Bool} {kvs : List (D × D)} {p : Option (List D)} {y : D} : ixD (some (tk, kvs)) p y M = if isKey tk y = true then onO (dget kvs y) fun v => .ok v M else .stuck := by
  show (if isKey tk y then match dget kvs y with | some v => Res.ok v M | none => .stuck else .stuck) = _
  cases dget kvs y <;> rfl
@[simp] theorem ixd_int {x y : D} : ixd M x y = ixD (dicOf M x) (seqOf M x) y M := id rfl
theorem inn_dic {n : Nat} {tk : Bool} {kvs : List (D × D)} {x : D} (h : obD M[n]? = some (tk, kvs)) (hl : obL M[n]? = none) (hk : isKey tk x = true) : cmpop .inn x (.ptr n) M = .ok (.bl (dget kvs x).isSome) M := by
  simp only [cmpop, seqOf_ptr, hl, dicOf_ptr, h, hk, if_true]
theorem nin_dic {n : Nat} {tk : Bool} {kvs : List (D × D)} {x : D} (h : obD M[n]? = some (tk, kvs)) (hl : obL M[n]? = none) (hk : isKey tk x = true) : cmpop .nin x (.ptr n) M = .ok (.bl (!(dget kvs x).isSome)) M := by
  simp only [cmpop, seqOf_ptr, hl, dicOf_ptr, h, hk, if_true]
@[simp] theorem sld_lst {xs : List D} {l h : Option Int} : sld M (.lst xs) l h = .ok (.lst (cutd xs l h)) M := id rfl
@[simp] theorem sld_scr {xs : List Int} {l h : Option Int} : sld M (.scr xs) l h = .ok (.lst (cutd (xs.map D.int) l h)) M := id rfl
@[simp] theorem isTy_int {t : Ty} {i : Int} : isTy M t (.int i) = some (t matches Ty.int) := by cases t <;> rfl
@[simp] theorem isTy_tup {t : Ty} {i : List D} : isTy M t (.tup i) = some (t matches Ty.tuple) := by cases t <;> rfl
@[simp] theorem isTy_lst {t : Ty} {i : List D} : isTy M t (.lst i) = some (t matches Ty.list) := by cases t <;> rfl
theorem isTy_ptr {n : Nat} {xs : List D} (h : M[n]? = some (.lst xs)) : isTy M .list (.ptr n) = some true := by
  simp only [isTy, h]
@[simp] theorem bindG_n {i : Nat} {d : D} {ρ : Rho} : bindG (.n i) d ρ = some (ρ.set i (some d)) := id rfl
theorem bindG_t {gs : List Nat} {ds : List D} {ρ : Rho} : bindG (.t gs) (.tup ds) ρ = if ds.length = gs.length then some ((gs.zip ds).foldl (fun ρ p => ρ.set p.1 (some p.2)) ρ) else none := id rfl
theorem bindG_l {gs : List Nat} {ds : List D} {ρ : Rho} : bindG (.t gs) (.lst ds) ρ = if ds.length = gs.length then some ((gs.zip ds).foldl (fun ρ p => ρ.set p.1 (some p.2)) ρ) else none := id rfl
end
@[simp] theorem finish_er {tr : Bool} {M M' : Store} {c : Nat} {fs : List D} {ρ : Rho} : finish tr M (some (.er c fs ρ, M')) = .err c fs M' := id rfl
theorem finish_rt_same {tr : Bool} {M M' : Store} {d : D} (h : M'.length = M.length) : finish tr M (some (.rt d, M')) = .ok d M' := by
  simp only [finish]; split <;> simp [← h]
theorem finish_nx_same {tr : Bool} {M M' : Store} {ρ : Rho} (h : M'.length = M.length) : finish tr M (some (.nx ρ, M')) = .ok .non M' := by
  simp only [finish]; split <;> simp [← h]
@[simp] theorem finish_rt0 {tr : Bool} {M : Store} {d : D} : finish tr M (some (.rt d, M)) = .ok d M := finish_rt_same rfl
@[simp] theorem finish_nx0 {tr : Bool} {M : Store} {ρ : Rho} : finish tr M (some (.nx ρ, M)) = .ok .non M := finish_nx_same rfl
/-- new places are let go -/
theorem finish_rt_cut {M M' R : Store} {d : D} (h : M' = M ++ R) (hd : underD M.length d = true) : finish true M (some (.rt d, M')) = .ok d M := by
  subst h
  simp only [finish]
  rw [if_pos ⟨rfl, hd, .inl (by simp)⟩]
  simp
/-- .. beside an older list of ints that has changed -/
theorem finish_rt_cut2 {M M' N R : Store} {d : D} (h : M' = N ++ R) (hl : N.length = M.length) (hd : underD M.length d = true) (hN : N.all (underO M.length) = true) : finish true M (some (.rt d, M')) = .ok d N := by
  subst h
  simp only [finish]
  rw [if_pos ⟨rfl, hd, .inr (by rw [← hl, List.take_left]; rw [hl]; exact hN)⟩]
  rw [← hl, List.take_left]
section
variable {M : Store}
@[simp] theorem add_ii {i j : Int} : binop .add (.int i) (.int j) M = .ok (.int (i + j)) M := id rfl
@[simp] theorem sub_ii {i j : Int} : binop .sub (.int i) (.int j) M = .ok (.int (i - j)) M := id rfl
theorem mul_ii {i j : Int} (h : (-18446744073709551616 < i ∧ i < 18446744073709551616) ∨ (-18446744073709551616 < j ∧ j < 18446744073709551616)) : binop .mul (.int i) (.int j) M = .ok (.int (i * j)) M := if_pos h
theorem fdiv_ii {i j : Int} (h : 0 < j ∧ j < 1073741824) : binop .fdiv (.int i) (.int j) M = .ok (.int (i / j)) M := if_pos h
theorem mod_ii {i j : Int} (h : 0 < j) : binop .mod (.int i) (.int j) M = .ok (.int (i % j)) M := if_pos h
theorem pow_ii {i j : Int} (h : 0 ≤ j ∧ j ≤ 1000000 ∧ i.natAbs < 18446744073709551616) : binop .pow (.int i) (.int j) M = .ok (.int (i ^ j.toNat)) M := if_pos h
@[simp] theorem pow_10_6 : binop .pow (.int 10) (.int 6) M = .ok (.int 1000000) M := by rw [pow_ii (by decide)]; rfl
@[simp] theorem pow_10_18 : binop .pow (.int 10) (.int 18) M = .ok (.int 1000000000000000000) M := by rw [pow_ii (by decide)]; rfl
theorem add_ll {xs ys : List D} (h : xs.length + ys.length ≤ big) : binop .add (.lst xs) (.lst ys) M = .ok (.lst (xs ++ ys)) M := if_pos h
theorem mul_li {xs : List D} {k : Int} (h : -16777216 ≤ k ∧ k ≤ 16777216 ∧ xs.length * k.toNat ≤ big) : binop .mul (.lst xs) (.int k) M = .ok (.lst (List.replicate k.toNat xs).flatten) M := if_pos h
@[simp] theorem lt_ii {i j : Int} : cmpop .lt (.int i) (.int j) M = .ok (.bl (decide (i < j))) M := id rfl
@[simp] theorem le_ii {i j : Int} : cmpop .le (.int i) (.int j) M = .ok (.bl (decide (i ≤ j))) M := id rfl
@[simp] theorem gt_ii {i j : Int} : cmpop .gt (.int i) (.int j) M = .ok (.bl (decide (j < i))) M := id rfl
@[simp] theorem ge_ii {i j : Int} : cmpop .ge (.int i) (.int j) M = .ok (.bl (decide (j ≤ i))) M := id rfl
theorem eq_dd {x y : D} (hx : okd 12 (top M x) = true) (hy : okd 12 (top M y) = true) : cmpop .eq x y M = .ok (.bl (eqd (top M x) (top M y))) M := if_pos ⟨hx, hy⟩
theorem ne_dd {x y : D} (hx : okd 12 (top M x) = true) (hy : okd 12 (top M y) = true) : cmpop .ne x y M = .ok (.bl (!eqd (top M x) (top M y))) M := if_pos ⟨hx, hy⟩
@[simp] theorem eq_ii {i j : Int} : cmpop .eq (.int i) (.int j) M = .ok (.bl (i == j)) M := by rw [eq_dd rfl rfl]; simp [top, eqd]
@[simp] theorem ne_ii {i j : Int} : cmpop .ne (.int i) (.int j) M = .ok (.bl (!(i == j))) M := by rw [ne_dd rfl rfl]; simp [top, eqd]
@[simp] theorem truth_bl {b : Bool} : truth M (.bl b) = some b := id rfl
@[simp] theorem truth_int {i : Int} : truth M (.int i) = some (i != 0) := id rfl
end
theorem atI_nat {α : Type} {xs : List α} {i : Nat} {v : α} (h : xs[i]? = some v) : L2.atI xs (i : Int) = some v := by
  have hl := (List.getElem?_eq_some_iff.mp h).1
  unfold L2.atI L2.ixN
  rw [if_pos (by omega), if_pos (by omega)]
  simpa using h
end G

/-! GLoop -/
set_option maxRecDepth 100000
set_option maxHeartbeats 4000000
namespace G
/-- an end that no loop takes back -/
def isEnd : Fl → Bool | .rt _ => true | .er _ _ _ => true | _ => false
theorem turn_end {e : Fl × Store} {go : Rho → Store → Out} (h : isEnd e.1 = true) : turn (some e) go = some e := by
  obtain ⟨fl, M⟩ := e
  cases fl <;> first | rfl | cases h
theorem forL_drop {α : Type} {l : List α} {g : α → D} {f : D → Rho → Store → Out} {ρs : Nat → Rho} {Ms : Nat → Store} {bad : Nat → Option (Fl × Store)} (he : ∀ i e, bad i = some e → isEnd e.1 = true)
    (h : ∀ i a, l[i]? = some a → f (g a) (ρs i) (Ms i) = match bad i with | some e => some e | none => some (.nx (ρs (i + 1)), Ms (i + 1))) :
    ∀ m k, k + m = l.length → forL f ((l.drop k).map g) (ρs k) (Ms k) = match ((List.range l.length).drop k).findSome? bad with | some e => some e | none => some (.nx (ρs l.length), Ms l.length)
  | 0, k, hk => by
    have hk : k = l.length := by omega
    subst hk
    have e1 : (List.range l.length).drop l.length = [] := List.drop_eq_nil_of_le (by simp)
    rw [e1]
    simp [forL]
  | m + 1, k, hk => by
    have hlt : k < l.length := by omega
    have hr : (List.range l.length).drop k = k :: (List.range l.length).drop (k + 1) := by
      rw [List.drop_eq_getElem_cons (by simpa using hlt), List.getElem_range]
    rw [hr, List.drop_eq_getElem_cons hlt, List.map_cons, forL, h k l[k] (by simp [hlt]), List.findSome?_cons]
    cases hb : bad k with
    | some e => simp only [turn_end (he k e hb)]
    | none =>
      simp only [turn_nx]
      exact forL_drop he h m (k + 1) (by omega)
theorem forL_seq {α : Type} {l : List α} {g : α → D} {f : D → Rho → Store → Out} (ρs : Nat → Rho) (Ms : Nat → Store) (bad : Nat → Option (Fl × Store)) {ρ : Rho} {M : Store} (hρ : ρs 0 = ρ) (hM : Ms 0 = M) (he : ∀ i e, bad i = some e → isEnd e.1 = true)
    (h : ∀ i a, l[i]? = some a → f (g a) (ρs i) (Ms i) = match bad i with | some e => some e | none => some (.nx (ρs (i + 1)), Ms (i + 1))) :
    forL f (l.map g) ρ M = match (List.range l.length).findSome? bad with | some e => some e | none => some (.nx (ρs l.length), Ms l.length) := by
  have := forL_drop he h l.length 0 (by omega)
  rw [← hρ, ← hM]
  simpa using this
/-- a loop that goes to its end -/
theorem forL_all {α : Type} {l : List α} {g : α → D} {f : D → Rho → Store → Out} (ρs : Nat → Rho) (Ms : Nat → Store) {ρ : Rho} {M : Store} (hρ : ρs 0 = ρ) (hM : Ms 0 = M) (h : ∀ i a, l[i]? = some a → f (g a) (ρs i) (Ms i) = some (.nx (ρs (i + 1)), Ms (i + 1))) :
    forL f (l.map g) ρ M = some (.nx (ρs l.length), Ms l.length) := by
  rw [forL_seq (l := l) (g := g) (f := f) ρs Ms (fun _ => none) hρ hM (fun i e h => by cases h) h]
  have : (List.range l.length).findSome? (fun _ => (none : Option (Fl × Store))) = none := by simp
  rw [this]
/-- by an invariant on slots and store: each turn goes on -/
theorem forL_inv {α : Type} {l : List α} {g : α → D} {f : D → Rho → Store → Out} (I : Nat → Rho → Store → Prop) {ρ : Rho} {M : Store} (h0 : I 0 ρ M) (h : ∀ i a ρ M, l[i]? = some a → I i ρ M → ∃ ρ' M', f (g a) ρ M = some (.nx ρ', M') ∧ I (i + 1) ρ' M') :
    ∃ ρ' M', forL f (l.map g) ρ M = some (.nx ρ', M') ∧ I l.length ρ' M' := by
  have key : ∀ m k ρ M, k + m = l.length → I k ρ M → ∃ ρ' M', forL f ((l.drop k).map g) ρ M = some (.nx ρ', M') ∧ I l.length ρ' M' := by
    intro m
    induction m with
    | zero =>
      intro k ρ M hk i
      have hk : k = l.length := by omega
      subst hk
      exact ⟨ρ, M, by simp [forL], i⟩
    | succ m ih =>
      intro k ρ M hk i
      have hlt : k < l.length := by omega
      obtain ⟨ρ', M', e, i'⟩ := h k l[k] ρ M (by simp [hlt]) i
      rw [List.drop_eq_getElem_cons hlt, List.map_cons, forL, e, turn_nx]
      exact ih (k + 1) ρ' M' (by omega) i'
  simpa using key l.length 0 ρ M (by omega) h0
theorem foT_app {P : Pg} {w : Nat} {cf : Nat → List D → Store → Res D} {g : Gp} {b : Sms} {x : D} {ρ : Rho} {M : Store} : foT P w cf g b x ρ M = oO (bindG g x ρ) fun ρ' => runSs P w cf b ρ' M := rfl
theorem lcT_app {P : Pg} {w : Nat} {cf : Nat → List D → Store → Res D} {ρ : Rho} {g : Gp} {t : Tps} {e : Xp} {x : D} {M : Store} : lcT P w cf ρ g t e x M = onO (bindG g x (wipeR ρ (gslots g))) fun ρ' => ((runTs P w cf ρ' t M).noerr).zbind fun b M2 => if b = true then ((runE P w cf ρ' e M2).noerr).zbind fun y M3 => .ok (some y) M3 else .ok none M2 := rfl
theorem rngOf_map (k : Nat) : rngOf 0 (k : Int) = (List.range k).map fun (i : Nat) => D.int (i : Int) := by
  unfold rngOf
  simp
theorem range_get {k i a : Nat} (h : (List.range k)[i]? = some a) : i < k ∧ a = i := by
  obtain ⟨h1, h2⟩ := List.getElem?_eq_some_iff.mp h
  simp at h1 h2
  exact ⟨h1, h2.symm⟩
theorem lcA_map {α : Type} {f : D → Store → Res (Option D)} {g k : α → D} {M : Store} : ∀ {l : List α} {acc : List D}, (∀ a ∈ l, f (g a) M = .ok (some (k a)) M) → acc.length + l.length ≤ big → lcA f (l.map g) acc M = .ok (acc ++ l.map k) M
  | [], acc, _, _ => by simp [lcA]
  | a :: l, acc, h, hb => by
    rw [List.length_cons] at hb
    rw [List.map_cons, lcA, h a List.mem_cons_self, bind_ok]
    simp only
    rw [if_pos (by omega), lcA_map (fun b hb => h b (List.mem_cons_of_mem _ hb)) (by rw [List.length_append]; simp; omega)]
    simp
theorem lcA_filter {α : Type} {f : D → Store → Res (Option D)} {g k : α → D} {p : α → Bool} {M : Store} : ∀ {l : List α} {acc : List D}, (∀ a ∈ l, f (g a) M = .ok (if p a = true then some (k a) else none) M) → acc.length + l.length ≤ big → lcA f (l.map g) acc M = .ok (acc ++ (l.filter p).map k) M
  | [], acc, _, _ => by simp [lcA]
  | a :: l, acc, h, hb => by
    rw [List.length_cons] at hb
    rw [List.map_cons, lcA, h a List.mem_cons_self, bind_ok]
    cases hp : p a
    · simp only [hp, Bool.false_eq_true, if_false, List.filter_cons]
      exact lcA_filter (fun b hb => h b (List.mem_cons_of_mem _ hb)) (by omega)
    · simp only [hp, if_true, List.filter_cons]
      rw [if_pos (by omega), lcA_filter (fun b hb => h b (List.mem_cons_of_mem _ hb)) (by rw [List.length_append]; simp; omega)]
      simp
/-- .. that changes the store, each item with a property -/
theorem lcA_inv {α : Type} {f : D → Store → Res (Option D)} {g : α → D} (I : Store → Prop) (p : α → D → Prop) : ∀ {l : List α} {acc : List D} {M : Store}, (∀ a ∈ l, ∀ M, I M → ∃ y M', f (g a) M = .ok (some y) M' ∧ I M' ∧ p a y) → I M → acc.length + l.length ≤ big →
    ∃ ys M', lcA f (l.map g) acc M = .ok (acc ++ ys) M' ∧ I M' ∧ ys.length = l.length ∧ ∀ (i : Nat) a y, l[i]? = some a → ys[i]? = some y → p a y
  | [], acc, M, _, i, _ => ⟨[], M, by simp [lcA], i, rfl, fun i a y h => by simp at h⟩
  | a :: l, acc, M, h, i, hb => by
    rw [List.length_cons] at hb
    obtain ⟨y, M1, e, i1, py⟩ := h a List.mem_cons_self M i
    obtain ⟨ys, M2, e2, i2, hl, hp⟩ := lcA_inv I p (acc := acc ++ [y]) (fun b hb => h b (List.mem_cons_of_mem _ hb)) i1 (by rw [List.length_append]; simp; omega)
    refine ⟨y :: ys, M2, ?_, i2, by simp [hl], fun j b z hj hz => ?_⟩
    · rw [List.map_cons, lcA, e, bind_ok]
      simp only
      rw [if_pos (by omega), e2]
      simp
    · cases j with
      | zero => simp at hj hz; subst hj hz; exact py
      | succ j => exact hp j b z (by simpa using hj) (by simpa using hz)
end G

/-! GLaz -/
set_option maxRecDepth 100000
namespace G
def trH (P : Pg) (hs : List (Nat × Nat × Hx)) (o : Out) : Out := match o with | some (.er c fs ρ', M') => handle P c fs ρ' M' hs | o => o
theorem rS_try {P : Pg} {w : Nat} {cf : Nat → List D → Store → Res D} {ρ : Rho} {M : Store} {b : Sms} {hs : List (Nat × Nat × Hx)} : runS P w cf (.tr b hs) ρ M = trH P hs (runSs P w cf b ρ M) := id rfl
@[simp] theorem trH_er {P : Pg} {hs : List (Nat × Nat × Hx)} {c : Nat} {fs : List D} {ρ : Rho} {M : Store} : trH P hs (some (.er c fs ρ, M)) = handle P c fs ρ M hs := id rfl
@[simp] theorem trH_nx {P : Pg} {hs : List (Nat × Nat × Hx)} {ρ : Rho} {M : Store} : trH P hs (some (.nx ρ, M)) = some (.nx ρ, M) := id rfl
@[simp] theorem trH_rt {P : Pg} {hs : List (Nat × Nat × Hx)} {d : D} {M : Store} : trH P hs (some (.rt d, M)) = some (.rt d, M) := id rfl
/-- a loop that goes to its end: a fold of a state that slots and store show -/
theorem forL_rel {α σ : Type} {l : List α} {g : α → D} {f : D → Rho → Store → Out} (R : σ → Rho → Store → Prop) (step : σ → α → σ) {s : σ} {ρ : Rho} {M : Store} (h0 : R s ρ M)
    (h : ∀ a ∈ l, ∀ s ρ M, R s ρ M → ∃ ρ' M', f (g a) ρ M = some (.nx ρ', M') ∧ R (step s a) ρ' M') : ∃ ρ' M', forL f (l.map g) ρ M = some (.nx ρ', M') ∧ R (l.foldl step s) ρ' M' := by
  induction l generalizing s ρ M with
  | nil => exact ⟨ρ, M, rfl, h0⟩
  | cons a l ih =>
    obtain ⟨ρ', M', e, r⟩ := h a List.mem_cons_self s ρ M h0
    rw [List.map_cons, forL, e, turn_nx]
    exact ih r fun b hb => h b (List.mem_cons_of_mem _ hb)
/-- a loop that looks for the first item with an end -/
theorem forL_find {α ε : Type} {l : List α} {g : α → D} {f : D → Rho → Store → Out} (R : Rho → Store → Prop) (bad : α → Option ε) (X : ε → Fl → Store → Prop) {ρ : Rho} {M : Store} (h0 : R ρ M)
    (h : ∀ a ∈ l, ∀ ρ M, R ρ M → match bad a with | none => ∃ ρ' M', f (g a) ρ M = some (.nx ρ', M') ∧ R ρ' M' | some e => ∃ fl M', f (g a) ρ M = some (fl, M') ∧ isEnd fl = true ∧ X e fl M') :
    match l.findSome? bad with | none => ∃ ρ' M', forL f (l.map g) ρ M = some (.nx ρ', M') ∧ R ρ' M' | some e => ∃ fl M', forL f (l.map g) ρ M = some (fl, M') ∧ X e fl M' := by
  induction l generalizing ρ M with
  | nil => exact ⟨ρ, M, rfl, h0⟩
  | cons a l ih =>
    have ha := h a List.mem_cons_self ρ M h0
    rw [List.findSome?_cons, List.map_cons, forL]
    cases hb : bad a with
    | some e =>
      rw [hb] at ha
      obtain ⟨fl, M', e1, e2, x⟩ := ha
      exact ⟨fl, M', by rw [e1, turn_end e2], x⟩
    | none =>
      rw [hb] at ha
      obtain ⟨ρ', M', e, r⟩ := ha
      have := ih r fun b hb => h b (List.mem_cons_of_mem _ hb)
      rw [e, turn_nx]
      exact this
/-- .. that returns -/
theorem forL_ret {α : Type} {l : List α} {g : α → D} {f : D → Rho → Store → Out} (R : Rho → Store → Prop) (bad : α → Option D) {ρ : Rho} {M : Store} (h0 : R ρ M) (hM : ∀ ρ' M', R ρ' M' → M' = M)
    (h : ∀ a ∈ l, ∀ ρ, R ρ M → match bad a with | none => ∃ ρ', f (g a) ρ M = some (.nx ρ', M) ∧ R ρ' M | some d => f (g a) ρ M = some (.rt d, M)) :
    match l.findSome? bad with | none => ∃ ρ', forL f (l.map g) ρ M = some (.nx ρ', M) ∧ R ρ' M | some d => forL f (l.map g) ρ M = some (.rt d, M) := by
  have key := forL_find (l := l) (g := g) (f := f) R bad (fun d fl M' => fl = .rt d ∧ M' = M) h0 fun a ha ρ M1 r => by
    have e := hM _ _ r
    subst e
    have := h a ha ρ r
    cases hb : bad a with
    | none => rw [hb] at this; obtain ⟨ρ', e, r⟩ := this; exact ⟨ρ', _, e, r⟩
    | some d => rw [hb] at this; exact ⟨_, _, this, rfl, rfl, rfl⟩
  cases hb : l.findSome? bad with
  | none => rw [hb] at key; obtain ⟨ρ', M', e, r⟩ := key; have := hM _ _ r; subst this; exact ⟨ρ', e, r⟩
  | some d => rw [hb] at key; obtain ⟨fl, M', e, rfl, rfl⟩ := key; exact e
/-- .. that raises -/
theorem forL_rai {α : Type} {l : List α} {g : α → D} {f : D → Rho → Store → Out} (R : Rho → Store → Prop) (bad : α → Option (Nat × List D)) {ρ : Rho} {M : Store} (h0 : R ρ M) (hM : ∀ ρ' M', R ρ' M' → M' = M)
    (h : ∀ a ∈ l, ∀ ρ, R ρ M → match bad a with | none => ∃ ρ', f (g a) ρ M = some (.nx ρ', M) ∧ R ρ' M | some d => ∃ ρ', f (g a) ρ M = some (.er d.1 d.2 ρ', M)) :
    match l.findSome? bad with | none => ∃ ρ', forL f (l.map g) ρ M = some (.nx ρ', M) ∧ R ρ' M | some d => ∃ ρ', forL f (l.map g) ρ M = some (.er d.1 d.2 ρ', M) := by
  have key := forL_find (l := l) (g := g) (f := f) R bad (fun d fl M' => (∃ ρ', fl = .er d.1 d.2 ρ') ∧ M' = M) h0 fun a ha ρ M1 r => by
    have e := hM _ _ r
    subst e
    have := h a ha ρ r
    cases hb : bad a with
    | none => rw [hb] at this; obtain ⟨ρ', e, r⟩ := this; exact ⟨ρ', _, e, r⟩
    | some d => rw [hb] at this; obtain ⟨ρ', e⟩ := this; exact ⟨_, _, e, rfl, ⟨_, rfl⟩, rfl⟩
  cases hb : l.findSome? bad with
  | none => rw [hb] at key; obtain ⟨ρ', M', e, r⟩ := key; have := hM _ _ r; subst this; exact ⟨ρ', e, r⟩
  | some d => rw [hb] at key; obtain ⟨fl, M', e, ⟨ρ', rfl⟩, rfl⟩ := key; exact ⟨ρ', e⟩
def Nx (o : Out) (I : Rho → Store → Prop) : Prop := ∃ ρ M, o = some (.nx ρ, M) ∧ I ρ M
def Rt (o : Out) (Q : D → Store → Prop) : Prop := ∃ d M, o = some (.rt d, M) ∧ Q d M
theorem Nx.step {o : Out} {k : Rho → Store → Out} {I : Rho → Store → Prop} (ρ : Rho) (M : Store) (h : o = some (.nx ρ, M)) (h' : Nx (k ρ M) I) : Nx (zthen o k) I := by subst h; exact h'
theorem Rt.step {o : Out} {k : Rho → Store → Out} {I : D → Store → Prop} (ρ : Rho) (M : Store) (h : o = some (.nx ρ, M)) (h' : Rt (k ρ M) I) : Rt (zthen o k) I := by subst h; exact h'
theorem Nx.then {o : Out} {k : Rho → Store → Out} {I J : Rho → Store → Prop} (h : Nx o I) (h' : ∀ ρ M, I ρ M → Nx (k ρ M) J) : Nx (zthen o k) J := by obtain ⟨ρ, M, rfl, i⟩ := h; exact h' ρ M i
theorem Rt.then {o : Out} {k : Rho → Store → Out} {I : Rho → Store → Prop} {J : D → Store → Prop} (h : Nx o I) (h' : ∀ ρ M, I ρ M → Rt (k ρ M) J) : Rt (zthen o k) J := by obtain ⟨ρ, M, rfl, i⟩ := h; exact h' ρ M i
theorem Nx.last {o : Out} {I : Rho → Store → Prop} (h : Nx o I) : Nx (zthen o fun ρ' M' => some (.nx ρ', M')) I := by obtain ⟨ρ, M, rfl, i⟩ := h; exact ⟨ρ, M, rfl, i⟩
theorem Nx.is {ρ : Rho} {M : Store} {I : Rho → Store → Prop} (h : I ρ M) : Nx (some (.nx ρ, M)) I := ⟨ρ, M, rfl, h⟩
theorem Nx.of {o : Out} {I : Rho → Store → Prop} (ρ : Rho) (M : Store) (e : o = some (.nx ρ, M)) (h : I ρ M) : Nx o I := ⟨ρ, M, e, h⟩
theorem Rt.of {o : Out} {k : Rho → Store → Out} {I : D → Store → Prop} (d : D) (M : Store) (e : o = some (.rt d, M)) (h : I d M) : Rt (zthen o k) I := by subst e; exact ⟨d, M, rfl, h⟩
theorem Nx.mono {o : Out} {I J : Rho → Store → Prop} (h : Nx o I) (f : ∀ ρ M, I ρ M → J ρ M) : Nx o J := by obtain ⟨ρ, M, e, i⟩ := h; exact ⟨ρ, M, e, f ρ M i⟩
abbrev Er1 := Nat × List D
def resE (e : Option Er1) (M : Store) : Res D := match e with | some e => .err e.1 e.2 M | none => .ok .non M
@[simp] theorem resE_none {M : Store} : resE none M = .ok .non M := id rfl
@[simp] theorem resE_some {M : Store} {e : Er1} : resE (some e) M = .err e.1 e.2 M := id rfl
def Rai (R : Rho → Prop) (M : Store) (e : Option Er1) (o : Out) : Prop := match e with
  | none => ∃ ρ', o = some (.nx ρ', M) ∧ R ρ'
  | some d => ∃ ρ', o = some (.er d.1 d.2 ρ', M)
theorem Rai.then {R R' : Rho → Prop} {M : Store} {e e' : Option Er1} {o : Out} {k : Rho → Store → Out} (h : Rai R M e o) (h' : ∀ ρ, R ρ → Rai R' M e' (k ρ M)) : Rai R' M (e.or e') (zthen o k) := by
  cases e with
  | none => obtain ⟨ρ, rfl, r⟩ := h; exact h' ρ r
  | some d => obtain ⟨ρ, rfl⟩ := h; exact ⟨ρ, rfl⟩
theorem Rai.last {R : Rho → Prop} {M : Store} {e : Option Er1} {o : Out} (h : Rai R M e o) : Rai R M e (zthen o fun ρ' M' => some (.nx ρ', M')) := by
  cases e with
  | none => obtain ⟨ρ, rfl, r⟩ := h; exact ⟨ρ, rfl, r⟩
  | some d => obtain ⟨ρ, rfl⟩ := h; exact ⟨ρ, rfl⟩
theorem Rai.fin {R : Rho → Prop} {M : Store} {e : Option Er1} {o : Out} {tr : Bool} (h : Rai R M e o) : finish tr M o = resE e M := by
  cases e with
  | none => obtain ⟨ρ, rfl, r⟩ := h; simp
  | some d => obtain ⟨ρ, rfl⟩ := h; simp
theorem Rai.loop {α : Type} {l : List α} {g : α → D} {f : D → Rho → Store → Out} {R : Rho → Prop} {bad : α → Option Er1} {ρ : Rho} {M : Store} (h0 : R ρ)
    (h : ∀ a ∈ l, ∀ ρ, R ρ → Rai R M (bad a) (f (g a) ρ M)) : Rai R M (l.findSome? bad) (forL f (l.map g) ρ M) := by
  have key := forL_rai (l := l) (g := g) (f := f) (M := M) (fun ρ M' => M' = M ∧ R ρ) bad ⟨rfl, h0⟩ (fun _ _ h => h.1) fun a ha ρ r => by
    have := h a ha ρ r.2
    cases hb : bad a with
    | none => rw [hb] at this; obtain ⟨ρ', e, r⟩ := this; exact ⟨ρ', e, rfl, r⟩
    | some d => rw [hb] at this; exact this
  cases hb : l.findSome? bad with
  | none => rw [hb] at key; obtain ⟨ρ', e, r⟩ := key; exact ⟨ρ', e, r.2⟩
  | some d => rw [hb] at key; exact key
/-- a call that raises or gives None -/
theorem Rai.ex {R : Rho → Prop} {ρ : Rho} {M : Store} {e : Option Er1} {r : Res D} (h : r = resE e M) (h0 : R ρ) : Rai R M e (zwith r ρ fun _ M1 => some (.nx ρ, M1)) := by
  subst h
  cases e with
  | none => exact ⟨ρ, rfl, h0⟩
  | some d => exact ⟨ρ, rfl⟩
def Walks (M : Store) (w : Wk) (ds : List D) : Prop := w = .items ds ∨ ∃ n, w = .hot n ∧ M[n]? = some (.lst ds)
theorem lcH_map {α : Type} {f : D → Store → Res (Option D)} {g k : α → D} {M : Store} {n : Nat} {l : List α} (hM : M[n]? = some (.lst (l.map g))) (h : ∀ a ∈ l, f (g a) M = .ok (some (k a)) M) (hb : l.length ≤ big) :
    ∀ (m i w : Nat), i + m = l.length → m < w → lcH n f w i ((l.take i).map k) M = .ok (l.map k) M
  | 0, i, 0, _, hw => by omega
  | 0, i, w + 1, e, _ => by
    have e : i = l.length := by omega
    subst e
    simp [lcH, hM]
  | m + 1, i, 0, _, hw => by omega
  | m + 1, i, w + 1, e, hw => by
    have hi : i < l.length := by omega
    have hg : (l.map g)[i]? = some (g l[i]) := by simp [hi]
    rw [lcH]
    simp only [hM, hg, h _ (List.getElem_mem hi), bind_ok]
    rw [if_pos (by simp; omega)]
    have := lcH_map hM h hb m (i + 1) w (by omega) (by omega)
    rw [List.take_succ_eq_append_getElem hi, List.map_append] at this
    simpa using this
theorem lcW_map {α : Type} {f : D → Store → Res (Option D)} {g k : α → D} {M : Store} {l : List α} {w : Wk} {W : Nat} (hw : Walks M w (l.map g)) (h : ∀ a ∈ l, f (g a) M = .ok (some (k a)) M) (hb : l.length ≤ big) (hW : l.length < W) : lcW f W w M = .ok (l.map k) M := by
  rcases hw with rfl | ⟨n, rfl, e⟩
  · rw [lcW_items, lcA_map h (by simpa using hb)]; simp
  · rw [lcW_hot]
    simpa using lcH_map e h hb l.length 0 W (by omega) hW
/-- a loop over a list of the store that stays -/
theorem forH_inv {α : Type} {l : List α} {g : α → D} {f : D → Rho → Store → Out} {j W : Nat} (I : Nat → Rho → Store → Prop) {ρ : Rho} {M : Store} (hj : ∀ i ρ M, I i ρ M → M[j]? = some (.lst (l.map g))) (hW : l.length < W) (h0 : I 0 ρ M) (h : ∀ i a ρ M, l[i]? = some a → I i ρ M → ∃ ρ' M', f (g a) ρ M = some (.nx ρ', M') ∧ I (i + 1) ρ' M') :
    ∃ ρ' M', forH j f W 0 ρ M = some (.nx ρ', M') ∧ I l.length ρ' M' := by
  have key : ∀ m k w ρ M, k + m = l.length → m < w → I k ρ M → ∃ ρ' M', forH j f w k ρ M = some (.nx ρ', M') ∧ I l.length ρ' M' := by
    intro m
    induction m with
    | zero =>
      intro k w ρ M hk hw i
      obtain ⟨w, rfl⟩ : ∃ v, w = v + 1 := ⟨w - 1, by omega⟩
      have hk : k = l.length := by omega
      subst hk
      exact ⟨ρ, M, by simp [forH, hj _ _ _ i], i⟩
    | succ m ih =>
      intro k w ρ M hk hw i
      obtain ⟨w, rfl⟩ : ∃ v, w = v + 1 := ⟨w - 1, by omega⟩
      have hlt : k < l.length := by omega
      obtain ⟨ρ', M', e, i'⟩ := h k l[k] ρ M (by simp [hlt]) i
      have hg : (l.map g)[k]? = some (g l[k]) := by simp [hlt]
      rw [forH]
      simp only [hj _ _ _ i, hg, e, turn_nx]
      exact ih (k + 1) w ρ' M' (by omega) (by omega) i'
  exact key l.length 0 W ρ M (by omega) hW h0
theorem range_mem {k i : Nat} (h : i ∈ List.range k) : i < k := List.mem_range.mp h
end G

/-! A30 -/
set_option maxRecDepth 100000
set_option maxHeartbeats 4000000
namespace K30
open G
variable {W : Nat}
variable {n : Nat} {M : Store}
abbrev il (l : List Int) : List D := l.map D.int
theorem er0 : P.ers[0]? = some ⟨"TooMany", [1], [0]⟩ := rfl
theorem er1 : P.ers[1]? = some ⟨"BadPiece", [0], [1]⟩ := rfl
theorem er2 : P.ers[2]? = some ⟨"BadLetter", [0], [2]⟩ := rfl
theorem il_get {l : List Int} {i : Nat} {a : Int} (h : l[i]? = some a) : L2.atI (il l) (i : Int) = some (.int a) := atI_nat (by simp [h])
theorem is_whole_int (v : Int) : callF P W (n + 1) 0 [.int v] M = .ok (.bl true) M := by
  rw [callF_eq (k := f0) rfl rfl]
  simp [f0, b0]
theorem isTy_bl {t : Ty} {b : Bool} : isTy M t (.bl b) = some (match t with | .bool => true | .int => true | _ => false) := rfl
theorem is_whole_bl (b : Bool) : callF P W (n + 1) 0 [.bl b] M = .ok (.bl false) M := by
  rw [callF_eq (k := f0) rfl rfl]
  simp [f0, b0, isTy_bl]
def many (x : PySem.Str) (c : Prop) [Decidable c] : Option Er1 := if c then some (0, [.str x]) else none
theorem check_most (v m : Int) (x : PySem.Str) : callF P W (n + 2) 1 [.int v, .int m, .str x] M = resE (many x (m < v)) M := by
  rw [callF_eq (k := f1) rfl rfl]
  unfold many
  simp [f1, b1, is_whole_int]
  by_cases h : m < v
  · simp [h, er0]
  · simp [h]
theorem check_most_bl (v : Bool) (m : Int) (x : PySem.Str) : callF P W (n + 2) 1 [.bl v, .int m, .str x] M = resE none M := by
  rw [callF_eq (k := f1) rfl rfl]
  simp [f1, b1, is_whole_bl]
/-- the purse as it lies in the store -/
abbrev pu (p : Int × Int × Int) : Ob := .lst [.int p.1, .int p.2.1, .int p.2.2]
theorem at0 {α : Type} {a : α} {r : List α} : L2.atI (a :: r) 0 = some a := atI_nat (i := 0) rfl
theorem at1 {α : Type} {a b : α} {r : List α} : L2.atI (a :: b :: r) 1 = some b := atI_nat (i := 1) rfl
theorem at2 {α : Type} {a b c : α} {r : List α} : L2.atI (a :: b :: c :: r) 2 = some c := atI_nat (i := 2) rfl
theorem ix0 : L2.ixN 3 0 = some 0 := rfl
theorem ix1 : L2.ixN 3 1 = some 1 := rfl
theorem ix2 : L2.ixN 3 2 = some 2 := rfl
theorem draw (p : Int × Int × Int) (m : Int) (hm : 0 < m) (hm2 : m < 1073741824) (R : Store) : ∃ v p', 0 ≤ v ∧ v < m ∧ callF P W (n + 1) 17 [.ptr 0, .int m] (pu p :: R) = .ok (.int v) (pu p' :: R) := by
  obtain ⟨a, b, c⟩ := p
  rw [callF_eq (k := f17) rfl rfl]
  by_cases h : 0 < a
  · refine ⟨a % m, (a / m, b, c), Int.emod_nonneg _ (by omega), Int.emod_lt_of_pos _ hm, ?_⟩
    simp [f17, b17, h, at0, at1, at2, ix0, ix1, ix2, mod_ii hm, fdiv_ii ⟨hm, hm2⟩, finish_rt_same]
  · refine ⟨((b * 48271 + (c + 1) * 69621) % 2147483647 * 16807 + (c + 1) * 7919) % 2147483629 / 8 % m, (a, (b * 48271 + (c + 1) * 69621) % 2147483647, c + 1), Int.emod_nonneg _ (by omega), Int.emod_lt_of_pos _ hm, ?_⟩
    simp [f17, b17, h, at0, at1, at2, ix0, ix1, ix2, mod_ii hm, mod_ii, fdiv_ii, mul_ii, finish_rt_same]
theorem drawN (p : Int × Int × Int) (m : Nat) (hm : 0 < m) (hm2 : m < 1073741824) (R : Store) : ∃ (v : Nat) (p' : Int × Int × Int), v < m ∧ callF P W (n + 1) 17 [.ptr 0, .int m] (pu p :: R) = .ok (.int v) (pu p' :: R) := by
  obtain ⟨v, p', h0, h1, e⟩ := draw (W := W) (n := n) p m (by omega) (by omega) R
  obtain ⟨k, rfl⟩ := Int.eq_ofNat_of_zero_le h0
  exact ⟨k, p', by omega, e⟩
theorem finish_rt_keep {tr : Bool} {M M' : Store} {d : D} (h : underD M.length d = false) : finish tr M (some (.rt d, M')) = .ok d M' := by
  simp only [finish]
  rw [if_neg]
  rintro ⟨_, h2, _⟩
  rw [h] at h2; cases h2
theorem purse (ns : List Int) : ∃ p, callF P W (n + 1) 16 [.scr ns, .int 0] [] = .ok (.ptr 0) [pu p] := by
  rw [callF_eq (k := f16) rfl rfl]
  cases ns with
  | nil => exact ⟨(0, 12345, 0), by simp [f16, b16, mul_ii, mod_ii, cutd, HT.sIx, lcA, finish_rt_keep, underD, big, PySem.sizeLine]⟩
  | cons x r =>
    have h0 : L2.atI (D.int x :: r.map D.int) 0 = some (.int x) := by simpa using atI_nat (xs := D.int x :: r.map D.int) (i := 0) (v := .int x) rfl
    have h1 : (0 : Int) < (r.length : Int) + 1 := by omega
    by_cases h : x < 0
    · by_cases hz : 1000000000000000000 ≤ 2 * -x + 1
      · exact ⟨(2 * -x + 1, (2 * -x + 1 + 12345) % 2147483629, 0), by simp [f16, b16, mul_ii, mod_ii, h0, h1, h, hz, finish_rt_keep, underD, big, PySem.sizeLine]⟩
      · exact ⟨(0, (2 * -x + 1 + 12345) % 2147483629, 0), by simp [f16, b16, mul_ii, mod_ii, h0, h1, h, hz, finish_rt_keep, underD, big, PySem.sizeLine]⟩
    · by_cases hz : 1000000000000000000 ≤ 2 * x
      · exact ⟨(2 * x, (2 * x + 12345) % 2147483629, 0), by simp [f16, b16, mul_ii, mod_ii, h0, h1, h, hz, finish_rt_keep, underD, big, PySem.sizeLine]⟩
      · exact ⟨(0, (2 * x + 12345) % 2147483629, 0), by simp [f16, b16, mul_ii, mod_ii, h0, h1, h, hz, finish_rt_keep, underD, big, PySem.sizeLine]⟩
theorem st0 {R r : Store} {a : Ob} : (R ++ a :: r)[R.length]? = some a := by simp
theorem st1 {R r : Store} {a b : Ob} : (R ++ a :: b :: r)[R.length + 1]? = some b := by simp [List.getElem?_append]
theorem se0 {R r : Store} {a x : Ob} : (R ++ a :: r).set R.length x = R ++ x :: r := by simp
theorem se1 {R r : Store} {a b x : Ob} : (R ++ a :: b :: r).set (R.length + 1) x = R ++ a :: x :: r := by simp
theorem underDs_iff {k : Nat} : ∀ {xs : List D}, underDs k xs = true ↔ ∀ x ∈ xs, underD k x = true
  | [] => by simp [underDs]
  | x :: xs => by simp [underDs, underDs_iff (xs := xs)]
theorem underDs_perm {k : Nat} {xs ys : List D} (h : xs.Perm ys) (hx : underDs k xs = true) : underDs k ys = true := by
  rw [underDs_iff] at hx ⊢
  exact fun x hm => hx x (h.mem_iff.mpr hm)
theorem erase_perm : ∀ (l : List D) (i : Nat) {h : i < l.length}, ([l[i]] ++ l.eraseIdx i).Perm l
  | [], i, h => by simp at h
  | x :: l, 0, _ => by simp
  | x :: l, i + 1, h => by
    simp only [List.getElem_cons_succ, List.eraseIdx_cons_succ, List.singleton_append]
    exact (List.Perm.swap _ _ _).trans (.cons x (erase_perm l i (h := by simpa using h)))
/-- a list, plain or in the store -/
def LsD (M : Store) (x : D) (xs : List D) : Prop := x = .lst xs ∨ ∃ k, x = .ptr k ∧ M[k]? = some (.lst xs)
theorem LsD.seq {x : D} {xs : List D} (h : LsD M x xs) : seqOf M x = some xs := by
  rcases h with rfl | ⟨k, rfl, e⟩
  · rfl
  · simp [e]
theorem LsD.app {x : D} {xs : List D} {N : Store} (h : LsD M x xs) : LsD (M ++ N) x xs := by
  rcases h with rfl | ⟨k, rfl, e⟩
  · exact .inl rfl
  · exact .inr ⟨k, rfl, by rw [List.getElem?_append_left (List.getElem?_eq_some_iff.mp e).1, e]⟩
theorem law_mix (p : Int × Int × Int) (x : D) (xs : List D) (R : Store) (hh : LsD (pu p :: R) x xs) (hx : xs.length ≤ 100000) (hR : (R.all (underO (R.length + 1))) = true) (hu : underDs (R.length + 1) xs = true) : ∃ ys p', ys.Perm xs ∧ callF P W (n + 2) 18 [.ptr 0, x] (pu p :: R) = .ok (.lst ys) (pu p' :: R) := by
  rw [callF_eq (k := f18) rfl rfl]
  have key := forL_inv (l := List.range xs.length) (g := fun (i : Nat) => D.int (i : Int)) (f := foT P W (callF P W (n + 1)) (.n 4) b18_1) (fun i ρ M => ∃ p l m a, ρ = [some (.ptr 0), some x, some (.ptr (R.length + 1)), some (.ptr (R.length + 1 + 1)), a] ∧ M = pu p :: (R ++ [.lst l, .lst m]) ∧ (m ++ l).Perm xs ∧ l.length + i = xs.length) (ρ := [some (.ptr 0), some x, some (.ptr (R.length + 1)), some (.ptr (R.length + 1 + 1)), none]) (M := pu p :: (R ++ [.lst xs, .lst []])) ⟨p, xs, [], none, rfl, rfl, by simp, by simp⟩ ?_
  · have h1 := hh.seq
    have h2 : seqOf (pu p :: (R ++ [.lst xs, .lst []])) x = some xs := by
      have := (hh.app (N := [.lst xs, .lst []])).seq
      simpa using this
    simp [f18, b18, h1, h2, rngI_nat (show xs.length ≤ 16777216 by omega), big, PySem.sizeLine]
    obtain ⟨ρ', M', e, p', l, m, a, rfl, rfl, hp, hl⟩ := key
    simp only [e, zthen_nx]
    have hl0 : l = [] := by simpa using hl
    subst hl0
    refine ⟨m, by simpa using hp, p'.1, p'.2.1, p'.2.2, ?_⟩
    simp [st1, se1]
    refine finish_rt_cut2 (N := pu p' :: R) (R := [.lst [], .dead]) (by simp) (by simp) ?_ ?_
    · simp only [underD, List.length_cons]
      exact underDs_perm (by simpa using hp.symm) hu
    · rw [List.all_cons]
      simp only [List.length_cons, hR, Bool.and_true]
      simp [underO, underDs, underD]
  · rintro i a ρ M hi ⟨p, l, m, a, rfl, rfl, hp, hl⟩
    have hi := (range_get hi).1
    obtain ⟨v, p1, h0, h1, e⟩ := draw (W := W) (n := n) p l.length (by omega) (by omega) (R ++ [.lst l, .lst m])
    have hv : l[v.toNat]? = some (l[v.toNat]'(by omega)) := by simp
    have hm : m.length < big := by
      have := hp.length_eq
      simp only [List.length_append] at this
      simp only [big, PySem.sizeLine]; omega
    refine ⟨_, _, by simp [foT_app, b18_1, st0, st1, e, popI_ok h0 (by omega) hv, hm]; exact ⟨rfl, rfl⟩, ?_⟩
    refine ⟨p1, l.eraseIdx v.toNat, m ++ [l[v.toNat]'(by omega)], _, rfl, by simp, ?_, ?_⟩
    · refine List.Perm.trans ?_ hp
      rw [List.append_assoc]
      refine List.Perm.append_left m ?_
      exact erase_perm _ _
    · rw [List.length_eraseIdx]; split <;> omega
end K30

/-! B30 -/
set_option maxRecDepth 100000
set_option maxHeartbeats 4000000
namespace K30
open G
variable {W : Nat}
variable {n : Nat} {M : Store}
/-- a piece: its skills, its due -/
structure Pc where
  x : List Int
  d : Int
  deriving DecidableEq
def Pc.D (p : Pc) : D := .tup [.tup (il p.x), .int p.d]
/-- a letter -/
inductive Lt where
  | b | h (v : Int) | w (v : Int) | hT | h0 | b1 | w0 | bs | st
  deriving DecidableEq
def Lt.D : Lt → D
  | .b => .tup [.str "bell"]
  | .h v => .tup [.str "hand", .int v]
  | .w v => .tup [.str "word", .int v]
  | .hT => .tup [.str "hand", .bl true]
  | .h0 => .tup [.str "hand"]
  | .b1 => .tup [.str "bell", .int 1]
  | .w0 => .tup [.str "word"]
  | .bs => .tup [.str "bells"]
  | .st => .tup [.str "strike"]
abbrev pl (l : List Pc) : List D := l.map Pc.D
abbrev lt (l : List Lt) : List D := l.map Lt.D
theorem pl_get {l : List Pc} {i : Nat} {a : Pc} (h : l[i]? = some a) : L2.atI (pl l) (i : Int) = some (.tup [.tup (il a.x), .int a.d]) := atI_nat (by simp [h, Pc.D])
theorem lt_get {l : List Lt} {i : Nat} {a : Lt} (h : l[i]? = some a) : L2.atI (lt l) (i : Int) = some a.D := atI_nat (by simp [h])
theorem piece_rows (lot : List Pc) (hl : lot.length ≤ 100000) : callF P W (n + 1) 2 [.lst (pl lot)] M = .ok (.lst (pl lot)) M := by
  rw [callF_eq (k := f2) rfl rfl]
  have hc := lcA_map (l := lot) (acc := []) (f := lcT P W (callF P W n) [some (.lst (pl lot)), none] (.n 1) .nil (.tup (.cons (.bi .tuple (.cons (.ix (.v 1) (.int 0)) .nil)) (.cons (.ix (.v 1) (.int 1)) .nil)))) (g := Pc.D) (k := Pc.D) (M := M) (fun j _ => by
    simp [lcT_app, Pc.D, at0, at1, gslots, wipeR, big, PySem.sizeLine]) (by simp [big, PySem.sizeLine]; omega)
  simp only [List.nil_append] at hc
  simp [f2, b2, hc]
def numE : Lt → Option Er1
  | .w v => many "number" (1000000000 < v)
  | _ => none
def sklE : Lt → Option Er1
  | .h v => many "skills" (8 < v)
  | _ => none
def skpE (v : Int) : Option Er1 := many "skills" (8 < v)
def pskE (p : Pc) : Option Er1 := p.x.findSome? skpE
def belE (p : Pc) : Option Er1 := many "bells" (30 < p.d)
def dropE (rows : List Pc) (course : List Lt) : Option Er1 :=
  (course.findSome? numE).or <| (many "drops" (10 < (rows.length : Int))).or <| (rows.findSome? pskE).or <| (course.findSome? sklE).or <| (rows.findSome? belE).or (many "letters" (60 < (course.length : Int)))
theorem pow_9 : binop .pow (.int 10) (.int 9) M = .ok (.int 1000000000) M := by rw [pow_ii (by decide)]; rfl
def R3 (rows : List Pc) (course : List Lt) (ρ : Rho) : Prop := ∃ a b c d, ρ = [some (.lst [.lst (pl rows)]), some (.lst (lt course)), a, b, c, d]


theorem eq_s1 {a b : PySem.Str} (ha : PySem.PyData.strOk a = true) (hb : PySem.PyData.strOk b = true) : cmpop .eq (.str a) (.str b) M = .ok (.bl (a == b)) M := by
  rw [eq_dd (by simp [G.top, okd, ha]) (by simp [G.top, okd, hb])]; simp [G.top, eqd]
theorem eq_t1 {a b : PySem.Str} (ha : PySem.PyData.strOk a = true) (hb : PySem.PyData.strOk b = true) : cmpop .eq (.tup [.str a]) (.tup [.str b]) M = .ok (.bl (a == b)) M := by
  rw [eq_dd (by simp [G.top, okd, ha]) (by simp [G.top, okd, hb])]; simp [G.top, eqd, eqds]
theorem big_le {k : Nat} (h : k ≤ 100000) : k ≤ big := by simp [big, PySem.sizeLine]; omega
@[simp] theorem big_1 : (1 ≤ big) = True := by simp [big, PySem.sizeLine]
@[simp] theorem big_0 : (0 ≤ big) = True := by simp
@[simp] theorem big_2 : (2 ≤ big) = True := by simp [big, PySem.sizeLine]
@[simp] theorem big_3 : (3 ≤ big) = True := by simp [big, PySem.sizeLine]
@[simp] theorem big_4 : (4 ≤ big) = True := by simp [big, PySem.sizeLine]
theorem kw : PySem.PyData.strOk "word" = true := by decide +kernel
theorem kh : PySem.PyData.strOk "hand" = true := by decide +kernel
theorem kb : PySem.PyData.strOk "bell" = true := by decide +kernel
def Lt.k : Lt → PySem.Str
  | .b => "bell" | .h _ => "hand" | .w _ => "word" | .hT => "hand" | .h0 => "hand" | .b1 => "bell" | .w0 => "word" | .bs => "bells" | .st => "strike"
theorem ks : ∀ x : Lt, PySem.PyData.strOk x.k = true := by intro x; cases x <;> first | exact kh | exact kw | exact kb | decide +kernel
def Lt.r : Lt → List G.D
  | .b => [] | .h v => [.int v] | .w v => [.int v] | .hT => [.bl true] | .h0 => [] | .b1 => [.int 1] | .w0 => [] | .bs => [] | .st => []
theorem lt_D (x : Lt) : x.D = .tup (.str x.k :: x.r) := by cases x <;> rfl
def Lt.isW : Lt → Bool | .w _ => true | .w0 => true | _ => false
def Lt.isH : Lt → Bool | .h _ => true | .hT => true | .h0 => true | _ => false
def Lt.isB : Lt → Bool | .b => true | .b1 => true | _ => false
theorem k_w (x : Lt) : (x.k == ("word" : PySem.Str)) = x.isW := by cases x <;> rfl
theorem k_h (x : Lt) : (x.k == ("hand" : PySem.Str)) = x.isH := by cases x <;> rfl
theorem k_b (x : Lt) : (x.k == ("bell" : PySem.Str)) = x.isB := by cases x <;> rfl
theorem cut1 (x : Lt) : sld M x.D none (some 1) = .ok (.tup [.str x.k]) M := by cases x <;> rfl
theorem hd_w (x : Lt) : cmpop .eq (.tup [.str x.k]) (.tup [.str "word"]) M = .ok (.bl x.isW) M := by rw [eq_t1 (ks x) kw, k_w]
theorem hd_h (x : Lt) : cmpop .eq (.tup [.str x.k]) (.tup [.str "hand"]) M = .ok (.bl x.isH) M := by rw [eq_t1 (ks x) kh, k_h]
theorem sd_w (x : Lt) : cmpop .eq (.str x.k) (.str "word") M = .ok (.bl x.isW) M := by rw [eq_s1 (ks x) kw, k_w]
theorem sd_h (x : Lt) : cmpop .eq (.str x.k) (.str "hand") M = .ok (.bl x.isH) M := by rw [eq_s1 (ks x) kh, k_h]
theorem sd_b (x : Lt) : cmpop .eq (.str x.k) (.str "bell") M = .ok (.bl x.isB) M := by rw [eq_s1 (ks x) kb, k_b]
theorem Rai.one {f : D → Rho → Store → Out} {x : D} {R : Rho → Prop} {e : Option Er1} {ρ : Rho} {M : Store} (h0 : R ρ) (h : ∀ ρ, R ρ → Rai R M e (f x ρ M)) : Rai R M e (forL f [x] ρ M) := by
  have := h ρ h0
  rw [forL]
  cases e with
  | none => obtain ⟨ρ', e, r⟩ := this; rw [e, turn_nx]; exact ⟨ρ', rfl, r⟩
  | some d => obtain ⟨ρ', e⟩ := this; rw [e]; exact ⟨ρ', rfl⟩
theorem one (rows : List Pc) (e : Option Er1) : [rows].findSome? (fun _ => e) = e := by cases e <;> simp
theorem pc_D (p : Pc) : p.D = .tup [.tup (il p.x), .int p.d] := rfl
theorem Rai.skip {R : Rho → Prop} {ρ : Rho} {M : Store} (h : R ρ) : Rai R M none (some (.nx ρ, M)) := ⟨ρ, rfl, h⟩
theorem check_drops (rows : List Pc) (course : List Lt) (hl : rows.length ≤ 100000) (hc : course.length ≤ 100000) : callF P W (n + 3) 3 [.lst [.lst (pl rows)], .lst (lt course)] M = resE (dropE rows course) M := by
  rw [callF_eq (k := f3) rfl rfl]
  refine Rai.fin (R := R3 rows course) ?_
  simp only [f3, b3, rSs_cons]
  refine Rai.then (R := R3 rows course) ?_ fun ρ h => Rai.then (R := R3 rows course) ?_ fun ρ h => Rai.then (R := R3 rows course) ?_ fun ρ h => Rai.then (R := R3 rows course) ?_ fun ρ h => Rai.then (R := R3 rows course) ?_ fun ρ h => Rai.last ?_
  · simp
    refine Rai.loop ⟨_, _, _, _, rfl⟩ ?_
    rintro a ha ρ ⟨_, _, _, _, rfl⟩
    simp only [foT_app, b3_8, rSs_cons, rSs_nil, bindG_n, oO_some]
    refine Rai.last ?_
    simp [cut1, hd_w]
    cases a with
    | w v =>
      have e := check_most (W := W) (n := n) (M := M) v 1000000000 "number"
      simp [lt_D, Lt.r, Lt.isW, at1, pow_9, numE, e]
      exact Rai.last (Rai.ex rfl ⟨_, _, _, _, rfl⟩)
    | _ =>
      simp [lt_D, Lt.r, Lt.isW, numE]
      exact Rai.skip ⟨_, _, _, _, rfl⟩
  · obtain ⟨_, _, _, _, rfl⟩ := h
    simp
    refine Rai.one ⟨_, _, _, _, rfl⟩ ?_
    rintro ρ ⟨_, _, _, _, rfl⟩
    have e := check_most (W := W) (n := n) (M := M) rows.length 10 "drops"
    simp [foT_app, b3_7, e]
    exact Rai.last (Rai.ex rfl ⟨_, _, _, _, rfl⟩)
  · obtain ⟨_, _, _, _, rfl⟩ := h
    simp
    refine Rai.one ⟨_, _, _, _, rfl⟩ ?_
    rintro ρ ⟨_, _, _, _, rfl⟩
    simp only [foT_app, b3_6, rSs_cons, rSs_nil, bindG_n, oO_some]
    refine Rai.last ?_
    simp
    refine Rai.loop ⟨_, _, _, _, rfl⟩ ?_
    rintro p hp ρ ⟨_, _, _, _, rfl⟩
    simp only [foT_app, b3_5, rSs_cons, rSs_nil, bindG_n, oO_some]
    refine Rai.last ?_
    simp [pc_D, at0]
    refine Rai.loop ⟨_, _, _, _, rfl⟩ ?_
    rintro v hv ρ ⟨_, _, _, _, rfl⟩
    have e := check_most (W := W) (n := n) (M := M) v 8 "skills"
    simp [foT_app, b3_4, e]
    exact Rai.last (Rai.ex rfl ⟨_, _, _, _, rfl⟩)
  · obtain ⟨_, _, _, _, rfl⟩ := h
    simp
    refine Rai.loop ⟨_, _, _, _, rfl⟩ ?_
    rintro a ha ρ ⟨_, _, _, _, rfl⟩
    simp only [foT_app, b3_3, rSs_cons, rSs_nil, bindG_n, oO_some]
    refine Rai.last ?_
    simp [cut1, hd_h]
    cases a with
    | h v =>
      have e := check_most (W := W) (n := n) (M := M) v 8 "skills"
      simp [lt_D, Lt.r, Lt.isH, at1, sklE, e]
      exact Rai.last (Rai.ex rfl ⟨_, _, _, _, rfl⟩)
    | hT =>
      have e := check_most_bl (W := W) (n := n) (M := M) true 8 "skills"
      simp [lt_D, Lt.r, Lt.isH, at1, sklE, e]
      exact Rai.skip ⟨_, _, _, _, rfl⟩
    | _ =>
      simp [lt_D, Lt.r, Lt.isH, sklE]
      exact Rai.skip ⟨_, _, _, _, rfl⟩
  · obtain ⟨_, _, _, _, rfl⟩ := h
    simp
    refine Rai.one ⟨_, _, _, _, rfl⟩ ?_
    rintro ρ ⟨_, _, _, _, rfl⟩
    simp only [foT_app, b3_2, rSs_cons, rSs_nil, bindG_n, oO_some]
    refine Rai.last ?_
    simp
    refine Rai.loop ⟨_, _, _, _, rfl⟩ ?_
    rintro p hp ρ ⟨_, _, _, _, rfl⟩
    have e := check_most (W := W) (n := n) (M := M) p.d 30 "bells"
    simp [foT_app, b3_1, pc_D, at1, e]
    exact Rai.last (Rai.ex rfl ⟨_, _, _, _, rfl⟩)
  · obtain ⟨_, _, _, _, rfl⟩ := h
    have e := check_most (W := W) (n := n) (M := M) course.length 60 "letters"
    simp [e]
    exact Rai.ex rfl ⟨_, _, _, _, rfl⟩
end K30

/-! E30 -/
set_option maxRecDepth 100000
set_option maxHeartbeats 4000000
namespace K30
open G
variable {W : Nat}
variable {n : Nat} {M : Store}
theorem rngOf_nat {a b : Nat} : rngOf (a : Int) (b : Int) = (List.range (b - a)).map fun (k : Nat) => D.int ((a + k : Nat) : Int) := by
  unfold rngOf
  have : ((b : Int) - (a : Int)).toNat = b - a := by omega
  rw [this]
  simp
def rngIJ (x y : D) (M : Store) : Res Wk := match x, y with
  | .int i, .int j => if rngOk i j then .ok (.items (rngOf i j)) M else .stuck
  | _, _ => .stuck
@[simp] theorem rI_rng2 {P : Pg} {w : Nat} {cf : Nat → List D → Store → Res D} {ρ : Rho} {M : Store} {a b : Xp} : runI P w cf ρ (.rng2 a b) M = (runE P w cf ρ a M).zbind fun x M1 => (runE P w cf ρ b M1).zbind fun y M2 => rngIJ x y M2 := rfl
theorem rng_nat {a b : Nat} (ha : a ≤ 100000) (hb : b ≤ 100000) : rngIJ (.int (a : Int)) (.int (b : Int)) M = .ok (.items ((List.range (b - a)).map fun (k : Nat) => D.int ((a + k : Nat) : Int))) M := by
  have h : rngOk (a : Int) (b : Int) = true := by
    simp only [rngOk, Bool.and_eq_true, decide_eq_true_eq]
    omega
  show (if rngOk (a : Int) (b : Int) then _ else _) = _
  rw [if_pos h, rngOf_nat]
theorem Rai.one' {f : D → Rho → Store → Out} {x : D} {R : Rho → Prop} {e : Option Er1} {ρ : Rho} {M : Store} (h : Rai R M e (f x ρ M)) : Rai R M e (forL f [x] ρ M) := by
  rw [forL]
  cases e with
  | none => obtain ⟨ρ', e, r⟩ := h; rw [e, turn_nx]; exact ⟨ρ', rfl, r⟩
  | some d => obtain ⟨ρ', e⟩ := h; rw [e]; exact ⟨ρ', rfl⟩
/-- a loop that counts -/
theorem Rai.loopI {α : Type} {g : α → D} {f : D → Rho → Store → Out} {R : Nat → Rho → Prop} {bad : Nat → α → Option Er1} {M : Store} : ∀ {l : List α} {k : Nat} {ρ : Rho}, R k ρ →
    (∀ i a, l[i]? = some a → ∀ ρ, R (k + i) ρ → Rai (R (k + i + 1)) M (bad (k + i) a) (f (g a) ρ M)) → Rai (R (k + l.length)) M ((l.zipIdx k).findSome? fun p => bad p.2 p.1) (forL f (l.map g) ρ M)
  | [], k, ρ, h0, _ => ⟨ρ, rfl, h0⟩
  | a :: l, k, ρ, h0, h => by
    have h1 := h 0 a rfl ρ h0
    rw [List.zipIdx_cons, List.findSome?_cons, List.map_cons, forL]
    simp only [Nat.add_zero] at h1
    cases hb : bad k a with
    | some d =>
      rw [hb] at h1
      obtain ⟨ρ', e⟩ := h1
      rw [e]
      exact ⟨ρ', rfl⟩
    | none =>
      rw [hb] at h1
      obtain ⟨ρ', e, r⟩ := h1
      rw [e, turn_nx]
      have := Rai.loopI (l := l) (k := k + 1) r (fun i b hi ρ hr => by
        have := h (i + 1) b (by simpa using hi) ρ (by simpa [Nat.add_assoc, Nat.add_comm 1] using hr)
        simpa [Nat.add_assoc, Nat.add_comm 1] using this)
      simpa [Nat.add_assoc, Nat.add_comm 1] using this
def downE (i : Nat) (x : List Int) (k : Nat) : Option Er1 := if x[k]?.getD 0 ≥ x[1 + k]?.getD 0 then some (1, [.int i]) else none
def hd0 : List Int → Int | [] => 0 | a :: _ => a
def badE (i : Nat) (p : Pc) : Option Er1 := if p.x = [] ∨ hd0 p.x < 1 ∨ p.d < 1 then some (1, [.int i]) else (List.range (p.x.length - 1)).findSome? (downE i p.x)
def pieceE (rows : List Pc) : Option Er1 := (rows.zipIdx).findSome? fun p => badE p.2 p.1
theorem eqd_il_nil {l : List Int} : eqd (.tup (il l)) (.tup []) = decide (l = []) := by
  cases l <;> simp [eqd, eqds]
theorem okd_il {k : Nat} {l : List Int} : (il l).all (okd k) = true := by
  simp [il, okd]
theorem eq_nil {l : List Int} : cmpop .eq (.tup (il l)) (.tup []) M = .ok (.bl (decide (l = []))) M := by
  rw [eq_dd (by simp only [G.top]; rw [okd]; exact okd_il) rfl]
  exact congrArg (fun b => Res.ok (D.bl b) M) eqd_il_nil
theorem check_pieces (rows : List Pc) (hx : ∀ p ∈ rows, p.x.length ≤ 100000) : callF P W (n + 1) 4 [.lst [.lst (pl rows)]] M = resE (pieceE rows) M := by
  rw [callF_eq (k := f4) rfl rfl]
  refine Rai.fin (R := fun _ => True) ?_
  simp only [f4, b4, rSs_cons, rSs_nil]
  simp
  refine Rai.last (Rai.one' ?_)
  simp only [foT_app, b4_3, rSs_cons, rSs_nil, bindG_n, oO_some]
  refine Rai.last ?_
  simp
  have key := Rai.loopI (l := rows) (k := 0) (g := Pc.D) (f := foT P W (callF P W n) (.t [3, 4]) b4_2) (M := M) (bad := badE) (R := fun i ρ => ∃ c d e, ρ = [some (.lst [.lst (pl rows)]), some (.int i), some (.lst (pl rows)), c, d, e]) (ρ := [some (.lst [.lst (pl rows)]), some (.int 0), some (.lst (pl rows)), none, none, none]) ⟨_, _, _, rfl⟩ ?_
  · revert key
    show Rai _ M (pieceE rows) _ → _
    cases pieceE rows with
    | none => rintro ⟨ρ, e, _⟩; exact ⟨ρ, e, trivial⟩
    | some d => exact id
  · rintro i p hp ρ ⟨c, d, e, rfl⟩
    have hm : p ∈ rows := List.mem_of_getElem? hp
    have hl := hx p hm
    simp only [Nat.zero_add]
    simp only [foT_app, b4_2, rSs_cons, rSs_nil, pc_D, bindG_t]
    simp
    unfold badE
    have hq : cmpop .eq (.tup (il p.x)) (.tup []) M = .ok (.bl (decide (p.x = []))) M := eq_nil
    by_cases h1 : p.x = []
    · simp [hq, h1, er1]; exact ⟨_, rfl⟩
    have h0 : L2.atI (il p.x) 0 = some (.int (hd0 p.x)) := by
      cases hc : p.x with
      | nil => exact absurd hc h1
      | cons v r => exact at0
    by_cases h2 : hd0 p.x < 1
    · simp [hq, h1, h0, h2, er1]; exact ⟨_, rfl⟩
    by_cases h3 : p.d < 1
    · simp [hq, h1, h0, h2, h3, er1]; exact ⟨_, rfl⟩
    have hr := rng_nat (M := M) (a := 1) (b := p.x.length) (by omega) (by omega)
    simp [hq, h1, h0, h2, h3]
    simp only [Int.natCast_add, Int.natCast_one] at hr
    simp only [hr, zwith_ok, foW_items]
    have e0 : downE i p.x = (none : Option Er1).or ∘ downE i p.x := by funext k; simp
    have key2 := Rai.loop (l := List.range (p.x.length - 1)) (g := fun (k : Nat) => D.int (1 + (k : Int))) (f := foT P W (callF P W n) (.n 5) b4_1) (M := M) (bad := downE i p.x) (R := fun ρ => ∃ e, ρ = [some (.lst [.lst (pl rows)]), some (.int i), some (.lst (pl rows)), some (.tup (il p.x)), some (.int p.d), e]) (ρ := [some (.lst [.lst (pl rows)]), some (.int i), some (.lst (pl rows)), some (.tup (il p.x)), some (.int p.d), e]) ⟨_, rfl⟩ ?_
    · have := Rai.then (R' := fun ρ => ∃ c d e, ρ = [some (.lst [.lst (pl rows)]), some (.int (i + 1 : Nat)), some (.lst (pl rows)), c, d, e]) (e' := none) (k := fun ρ' M' => runSs P W (callF P W n) (.cons (.asg (.n 1) (.bin .add (.v 1) (.int 1))) .nil) ρ' M') key2 ?_
      · simpa using this
      · rintro ρ ⟨e, rfl⟩
        simp
        exact ⟨_, rfl, _, _, _, rfl⟩
    · rintro k hk ρ ⟨e, rfl⟩
      have hk := range_mem hk
      have g1 : p.x[k]? = some (p.x[k]'(by omega)) := by simp
      have g2 : p.x[1 + k]? = some (p.x[1 + k]'(by omega)) := by simp
      have a1 := il_get g1
      have a2 := il_get g2
      simp only [Int.natCast_add, Int.natCast_one] at a2
      have e1 : (1 + (k : Int)) - 1 = k := by omega
      unfold downE
      rw [g1, g2]
      simp [foT_app, b4_1, e1, a1, a2]
      by_cases h : p.x[1 + k]'(by omega) ≤ p.x[k]'(by omega)
      · simp [h, er1]; exact ⟨_, rfl⟩
      · simp [h]; exact ⟨_, rfl, _, rfl⟩
theorem lt_ok : True := trivial
def Lt.ok : Lt → Bool
  | .b => true | .h v => decide (1 ≤ v) | .w v => decide (0 ≤ v) | _ => false
theorem eq_bell (a : Lt) : cmpop .eq a.D (.tup [.str "bell"]) M = .ok (.bl (decide (a = .b))) M := by
  have h0 : okd 12 (G.top M a.D) = true := by
    rw [lt_D]
    have := ks a
    cases a <;> simp_all [G.top, okd, Lt.r]
  rw [eq_dd h0 (by simp [G.top, okd, kb])]
  have h1 : eqd (G.top M a.D) (G.top M (.tup [.str "bell"])) = (a.isB && a.r.isEmpty) := by
    rw [lt_D]
    cases a <;> simp [G.top, eqd, eqds, Lt.r, ← k_b]
  rw [h1]
  cases a <;> rfl
theorem is_letter (a : Lt) : callF P W (n + 2) 5 [a.D] M = .ok (.bl a.ok) M := by
  rw [callF_eq (k := f5) rfl rfl]
  simp [f5, b5, eq_bell]
  by_cases hb : a = .b
  · subst hb; simp [Lt.ok]
  · simp [hb]
    cases a with
    | b => exact absurd rfl hb
    | h v =>
      have := sd_h (M := M) (.h v)
      have h2 := sd_w (M := M) (.h v)
      simp only [Lt.k, Lt.isH, Lt.isW] at this h2
      simp [lt_D, Lt.r, Lt.k, at0, at1, is_whole_int, this, Lt.ok]
      by_cases hv : 1 ≤ v <;> simp [hv, h2]
    | w v =>
      have := sd_h (M := M) (.w v)
      have h2 := sd_w (M := M) (.w v)
      simp only [Lt.k, Lt.isH, Lt.isW] at this h2
      simp [lt_D, Lt.r, Lt.k, at0, at1, is_whole_int, this, h2, Lt.ok]
    | hT => simp [lt_D, Lt.r, Lt.k, at0, at1, is_whole_bl, Lt.ok]
    | b1 =>
      have := sd_h (M := M) (.b1)
      have h2 := sd_w (M := M) (.b1)
      simp only [Lt.k, Lt.isH, Lt.isW] at this h2
      simp [lt_D, Lt.r, Lt.k, at0, at1, is_whole_int, this, h2, Lt.ok]
    | _ => simp [lt_D, Lt.r, Lt.k, at0, at1, Lt.ok]
def letE1 (course : List Lt) (i : Nat) : Option Er1 := match course[i]? with
  | some a => if a.ok = true then none else some (2, [.int i])
  | none => none
def letE (course : List Lt) : Option Er1 := (List.range course.length).findSome? (letE1 course)
theorem check_letters (course : List Lt) (hc : course.length ≤ 100000) : callF P W (n + 3) 6 [.lst (lt course)] M = resE (letE course) M := by
  rw [callF_eq (k := f6) rfl rfl]
  refine Rai.fin (R := fun ρ => ∃ a, ρ = [some (.lst (lt course)), a]) ?_
  simp only [f6, b6, rSs_cons, rSs_nil]
  simp [rngI_nat (show course.length ≤ 16777216 by omega)]
  refine Rai.last (Rai.loop ⟨_, rfl⟩ ?_)
  rintro i hi ρ ⟨a, rfl⟩
  have hi := range_mem hi
  have hg : course[i]? = some course[i] := by simp [hi]
  simp [foT_app, b6_1, lt_get hg, is_letter, letE1, hg]
  cases course[i].ok
  · simp [er2]; exact ⟨_, rfl⟩
  · simp; exact ⟨_, rfl, _, rfl⟩
end K30

/-! F30 -/
set_option maxRecDepth 100000
set_option maxHeartbeats 4000000
namespace K30
open G
variable {W : Nat}
variable {n : Nat} {M : Store}
abbrev nl (l : List Nat) : List D := l.map fun (k : Nat) => D.int (k : Int)
abbrev od (opts : List (List Nat)) : List D := opts.map fun l => D.lst (nl l)
def tkv (T : List (Nat × Nat)) : List (D × D) := T.map fun p => (D.int (p.1 : Int), D.int (p.2 : Int))
def skv (S : List Nat) : List (D × D) := S.map fun (r : Nat) => (D.int (r : Int), D.bl true)
def tg (T : List (Nat × Nat)) (r : Nat) : Option Nat := (T.find? fun p => p.1 == r).map (·.2)
def tput (T : List (Nat × Nat)) (r l : Nat) : List (Nat × Nat) := if T.any fun p => p.1 == r then T.map fun p => if p.1 == r then (p.1, l) else p else T ++ [(r, l)]
theorem eqd_nn (a b : Nat) : eqd (D.int (a : Int)) (D.int (b : Int)) = (a == b) := by
  show ((a : Int) == (b : Int)) = (a == b)
  by_cases h : a = b
  · subst h; rw [beq_self_eq_true, beq_self_eq_true]
  · have h2 : ¬ (a : Int) = (b : Int) := by omega
    rw [beq_eq_false_iff_ne.mpr h2, beq_eq_false_iff_ne.mpr h]
theorem dget_tkv (T : List (Nat × Nat)) (r : Nat) : dget (tkv T) (.int (r : Int)) = (tg T r).map fun l => D.int (l : Int) := by
  unfold dget tkv tg
  rw [List.find?_map]
  have : ((fun p : D × D => eqd p.1 (D.int (r : Int))) ∘ fun p : Nat × Nat => (D.int (p.1 : Int), D.int (p.2 : Int))) = fun p => p.1 == r := by
    funext p; simp [eqd_nn]
  rw [this]
  cases List.find? (fun p : Nat × Nat => p.1 == r) T <;> rfl
theorem dget_skv (S : List Nat) (r : Nat) : (dget (skv S) (.int (r : Int))).isSome = decide (r ∈ S) := by
  unfold dget skv
  rw [List.find?_map]
  have : ((fun p : D × D => eqd p.1 (D.int (r : Int))) ∘ fun a : Nat => (D.int (a : Int), D.bl true)) = fun p => p == r := by
    funext p; simp [eqd_nn]
  rw [this]
  by_cases h : r ∈ S
  · simp [h]
  · simp [h]
    intro x hx e; exact h (e ▸ hx)
theorem dput_tkv (T : List (Nat × Nat)) (r l : Nat) : dput (tkv T) (.int (r : Int)) (.int (l : Int)) = tkv (tput T r l) := by
  unfold dput tkv tput
  have e : (fun p : D × D => eqd p.1 (D.int (r : Int))) ∘ (fun p : Nat × Nat => (D.int (p.1 : Int), D.int (p.2 : Int))) = fun p => p.1 == r := by
    funext p; simp [eqd_nn]
  rw [List.any_map, e]
  split
  · rw [List.map_map, List.map_map]
    refine List.map_congr_left fun p _ => ?_
    simp only [Function.comp_def, eqd_nn]
    split <;> rfl
  · simp
theorem dput_skv (S : List Nat) (r : Nat) (h : r ∉ S) : dput (skv S) (.int (r : Int)) (.bl true) = skv (S ++ [r]) := by
  unfold dput skv
  have e : (fun p : D × D => eqd p.1 (D.int (r : Int))) ∘ (fun a : Nat => (D.int (a : Int), D.bl true)) = fun p => p == r := by
    funext p; simp [eqd_nn]
  rw [List.any_map, e, if_neg]
  · simp
  · simp [h]
theorem tg_put (T : List (Nat × Nat)) (r l x : Nat) : tg (tput T r l) x = if x = r then some l else tg T x := by
  unfold tput tg
  split
  · rename_i h
    induction T with
    | nil => cases h
    | cons p T ih =>
      rw [List.map_cons, List.find?_cons, List.find?_cons]
      by_cases hp : p.1 = r
      · by_cases hx : x = r
        · subst hx; simp [hp]
        · have : ¬ r = x := fun e => hx e.symm
          simp only [hp, beq_self_eq_true, if_true, hx, if_false]
          have hb : (r == x) = false := by simpa using this
          rw [hb]
          by_cases ha : T.any fun p => p.1 == r
          · have := ih ha
            simp only [hx, if_false] at this
            exact this
          · congr 1
            have : (T.map fun p => if (p.1 == r) = true then (p.1, l) else p) = T := by
              have h2 : ∀ p ∈ T, ¬ p.1 = r := fun p hp e => ha (List.any_eq_true.mpr ⟨p, hp, by simp [e]⟩)
              conv => rhs; rw [← List.map_id T]
              exact List.map_congr_left fun q hq => by simp [h2 q hq]
            rw [this]
      · have hb : (p.1 == r) = false := by simpa using hp
        simp only [hb, Bool.false_eq_true, if_false]
        by_cases hq : p.1 = x
        · have : ¬ x = r := fun e => hp (hq.trans e)
          simp [hq, this]
        · have hb2 : (p.1 == x) = false := by simpa using hq
          rw [hb2]
          exact ih (by simpa [hp] using h)
  · rename_i h
    have h2 : ∀ p ∈ T, ¬ p.1 = r := fun p hp e => h (List.any_eq_true.mpr ⟨p, hp, by simp [e]⟩)
    rw [List.find?_append]
    by_cases hx : x = r
    · subst hx
      have : T.find? (fun p => p.1 == x) = none := by simpa using h2
      rw [this]; simp
    · have : ¬ r = x := fun e => hx e.symm
      cases hT : T.find? (fun p => p.1 == x) <;> simp [hx, this]
theorem tg_mem {T : List (Nat × Nat)} {r l : Nat} (h : tg T r = some l) : (r, l) ∈ T := by
  unfold tg at h
  cases e : T.find? fun p => p.1 == r with
  | none => rw [e] at h; cases h
  | some p =>
    rw [e] at h
    have h1 := List.find?_some e
    have h2 := List.mem_of_find?_eq_some e
    simp at h h1
    obtain ⟨a, b⟩ := p
    simp at h h1
    subst h h1
    exact h2
theorem tg_of_mem {T : List (Nat × Nat)} {r l : Nat} (hn : (T.map (·.1)).Nodup) (h : (r, l) ∈ T) : tg T r = some l := by
  induction T with
  | nil => cases h
  | cons p T ih =>
    unfold tg
    rw [List.find?_cons]
    rw [List.map_cons, List.nodup_cons] at hn
    rcases List.mem_cons.mp h with rfl | h
    · simp
    · have : ¬ p.1 = r := fun e => hn.1 (by rw [e]; exact List.mem_map_of_mem (f := (·.1)) h)
      have hb : (p.1 == r) = false := by simpa using this
      rw [hb]
      exact ih hn.2 h
theorem keys_put (T : List (Nat × Nat)) (r l : Nat) : (tput T r l).map (·.1) = if r ∈ T.map (·.1) then T.map (·.1) else T.map (·.1) ++ [r] := by
  unfold tput
  by_cases h : r ∈ T.map (·.1)
  · have : (T.any fun p => p.1 == r) = true := by
      obtain ⟨p, hp, e⟩ := List.mem_map.mp h
      exact List.any_eq_true.mpr ⟨p, hp, by simp [e]⟩
    rw [if_pos this, if_pos h, List.map_map]
    refine List.map_congr_left fun p _ => ?_
    simp only [Function.comp_def]; split <;> rfl
  · have : ¬ (T.any fun p => p.1 == r) = true := by
      rintro ha
      obtain ⟨p, hp, e⟩ := List.any_eq_true.mp ha
      exact h (List.mem_map.mpr ⟨p, hp, by simpa using e⟩)
    rw [if_neg this, if_neg h]; simp
/-- rows without twins, of small numbers -/
def Ok (B : Nat) (S : List Nat) : Prop := S.Nodup ∧ ∀ r ∈ S, r < B
theorem Ok.len {B : Nat} {S : List Nat} (h : Ok B S) : S.length ≤ B := by
  have := List.Nodup.length_le_of_subset h.1 (l₂ := List.range B) fun r hr => List.mem_range.mpr (h.2 r hr)
  simpa using this
theorem Ok.add {B : Nat} {S : List Nat} {r : Nat} (h : Ok B S) (hr : r < B) (hn : r ∉ S) : Ok B (S ++ [r]) := by
  refine ⟨?_, fun x hx => ?_⟩
  · rw [List.nodup_append]
    refine ⟨h.1, by simp, ?_⟩
    intro a ha b hb
    simp at hb; subst hb
    exact fun e => hn (e ▸ ha)
  · rcases List.mem_append.mp hx with hx | hx
    · exact h.2 x hx
    · simp at hx; omega
theorem Ok.put {B : Nat} {T : List (Nat × Nat)} {r l : Nat} (h : Ok B (T.map (·.1))) (hr : r < B) : Ok B ((tput T r l).map (·.1)) := by
  rw [keys_put]
  split
  · exact h
  · exact h.add hr ‹_›
variable (opts : List (List Nat))
def Edge (T : List (Nat × Nat)) : Prop := ∀ r l, tg T r = some l → ∃ o, opts[l]? = some o ∧ r ∈ o
def Inj (T : List (Nat × Nat)) (S : List Nat) : Prop := ∀ r r' l, r ∉ S → r' ∉ S → tg T r = some l → tg T r' = some l → r = r'
def Free (T : List (Nat × Nat)) (S : List Nat) (l : Nat) : Prop := ∀ r, r ∉ S → tg T r ≠ some l
def Suc (T : List (Nat × Nat)) (S : List Nat) (l : Nat) (T' : List (Nat × Nat)) : Prop :=
  (∀ r ∈ S, tg T' r = tg T r) ∧ Inj T' S ∧ (∀ x, (∃ r, r ∉ S ∧ tg T' r = some x) ↔ (x = l ∨ ∃ r, r ∉ S ∧ tg T r = some x)) ∧ Edge opts T'
def Shut (T : List (Nat × Nat)) (S S' : List Nat) : Prop := ∀ r ∈ S', r ∉ S → ∃ l o, tg T r = some l ∧ opts[l]? = some o ∧ ∀ q ∈ o, q ∈ S'
variable {opts}
theorem suc_step {T T2 : List (Nat × Nat)} {S S1 : List Nat} {l r : Nat} {o : List Nat} (hS : ∀ x ∈ S, x ∈ S1) (hr : r ∉ S1) (ho : opts[l]? = some o) (hro : r ∈ o) (hE : Edge opts T2) (hI : Inj T S) (hF : Free T S l)
    (h1 : ∀ x ∈ S1 ++ [r], tg T2 x = tg T x) (h2 : Inj T2 (S1 ++ [r])) (h3 : ∀ x, (∃ q, q ∉ S1 ++ [r] ∧ tg T2 q = some x) ↔ (tg T r = some x ∨ ∃ q, q ∉ S1 ++ [r] ∧ tg T q = some x)) : Suc opts T S l (tput T2 r l) := by
  have mem : ∀ {x}, x ∈ S1 ++ [r] ↔ x ∈ S1 ∨ x = r := by intro x; simp
  have hrS : r ∉ S := fun h => hr (hS r h)
  have off : ∀ {q x}, q ∉ S → q ≠ r → tg T2 q = some x → (q ∈ S1 ∧ tg T q = some x) ∨ (q ∉ S1 ++ [r] ∧ (tg T r = some x ∨ ∃ q', q' ∉ S1 ++ [r] ∧ tg T q' = some x)) := by
    intro q x hq hn e
    by_cases hm : q ∈ S1
    · exact .inl ⟨hm, by rw [← h1 q (mem.mpr (.inl hm))]; exact e⟩
    · have hm' : q ∉ S1 ++ [r] := fun h => (mem.mp h).elim hm hn
      exact .inr ⟨hm', (h3 x).mp ⟨q, hm', e⟩⟩
  have nS : ∀ {q}, q ∉ S1 ++ [r] → q ∉ S := fun h h' => h (mem.mpr (.inl (hS _ h')))
  have noL : ∀ {q}, q ∉ S → q ≠ r → tg T2 q = some l → False := by
    intro q hq hn e
    rcases off hq hn e with ⟨_, e⟩ | ⟨_, e | ⟨q', hq', e⟩⟩
    · exact hF q hq e
    · exact hF r hrS e
    · exact hF q' (nS hq') e
  refine ⟨fun x hx => ?_, fun a b x ha hb ea eb => ?_, fun x => ⟨?_, ?_⟩, fun q x e => ?_⟩
  · have hn : x ≠ r := fun e => hrS (e ▸ hx)
    rw [tg_put, if_neg hn, h1 x (mem.mpr (.inl (hS x hx)))]
  · rw [tg_put] at ea eb
    by_cases har : a = r
    · by_cases hbr : b = r
      · rw [har, hbr]
      · rw [if_pos har] at ea; rw [if_neg hbr] at eb
        cases ea
        exact (noL hb hbr eb).elim
    · by_cases hbr : b = r
      · rw [if_neg har] at ea; rw [if_pos hbr] at eb
        cases eb
        exact (noL ha har ea).elim
      · rw [if_neg har] at ea; rw [if_neg hbr] at eb
        have cross : ∀ {a b}, a ∉ S → b ∉ S → a ∈ S1 → tg T a = some x → b ∉ S1 ++ [r] → (tg T r = some x ∨ ∃ q', q' ∉ S1 ++ [r] ∧ tg T q' = some x) → False := by
          intro a b ha hb hm e hbm h
          rcases h with h | ⟨q', hq', h⟩
          · exact hr (hI a r x ha hrS e h ▸ hm)
          · exact hq' (mem.mpr (.inl (hI a q' x ha (nS hq') e h ▸ hm)))
        rcases off ha har ea with ⟨a1, a2⟩ | ⟨a1, a2⟩ <;> rcases off hb hbr eb with ⟨b1, b2⟩ | ⟨b1, b2⟩
        · exact hI a b x ha hb a2 b2
        · exact (cross ha hb a1 a2 b1 b2).elim
        · exact (cross hb ha b1 b2 a1 a2).elim
        · exact h2 a b x a1 b1 ea eb
  · rintro ⟨q, hq, e⟩
    rw [tg_put] at e
    by_cases hqr : q = r
    · rw [if_pos hqr] at e; cases e; exact .inl rfl
    · rw [if_neg hqr] at e
      rcases off hq hqr e with ⟨_, e⟩ | ⟨_, e | ⟨q', hq', e⟩⟩
      · exact .inr ⟨q, hq, e⟩
      · exact .inr ⟨r, hrS, e⟩
      · exact .inr ⟨q', nS hq', e⟩
  · rintro (rfl | ⟨q, hq, e⟩)
    · exact ⟨r, hrS, by rw [tg_put, if_pos rfl]⟩
    · have fromR : (tg T r = some x ∨ ∃ q, q ∉ S1 ++ [r] ∧ tg T q = some x) → ∃ q, q ∉ S ∧ tg (tput T2 r l) q = some x := by
        intro h
        obtain ⟨q', hq', e'⟩ := (h3 x).mpr h
        have : q' ≠ r := fun e => hq' (mem.mpr (.inr e))
        exact ⟨q', nS hq', by rw [tg_put, if_neg this]; exact e'⟩
      by_cases hqr : q = r
      · subst hqr; exact fromR (.inl e)
      · by_cases hm : q ∈ S1
        · exact ⟨q, hq, by rw [tg_put, if_neg hqr, h1 q (mem.mpr (.inl hm))]; exact e⟩
        · exact fromR (.inr ⟨q, fun h => (mem.mp h).elim hm hqr, e⟩)
  · rw [tg_put] at e
    by_cases hqr : q = r
    · rw [if_pos hqr] at e; cases e; subst hqr; exact ⟨o, ho, hro⟩
    · rw [if_neg hqr] at e; exact hE q x e
end K30

/-! Q30 -/
set_option maxRecDepth 100000
set_option maxHeartbeats 4000000
namespace K30
open G
variable {W : Nat}
/-- the two dicts in the store -/
def St (M : Store) (t s : Nat) (T : List (Nat × Nat)) (S : List Nat) : Store := (M.set t (.dic false (tkv T))).set s (.dic false (skv S))
structure Wh (M : Store) (o t s : Nat) (opts : List (List Nat)) : Prop where
  o_ : M[o]? = some (.lst (od opts))
  t_ : t < M.length
  s_ : s < M.length
  ot : o ≠ t
  os : o ≠ s
  ts : t ≠ s
section
variable {M : Store} {o t s : Nat} {opts : List (List Nat)} {T : List (Nat × Nat)} {S : List Nat}
theorem St.len : (St M t s T S).length = M.length := by simp [St]
theorem St.go (h : Wh M o t s opts) : (St M t s T S)[o]? = some (.lst (od opts)) := by
  unfold St
  rw [List.getElem?_set_ne h.os.symm, List.getElem?_set_ne h.ot.symm, h.o_]
theorem St.gt (h : Wh M o t s opts) : (St M t s T S)[t]? = some (.dic false (tkv T)) := by
  unfold St
  rw [List.getElem?_set_ne h.ts.symm, List.getElem?_set_self h.t_]
theorem St.gs (h : Wh M o t s opts) : (St M t s T S)[s]? = some (.dic false (skv S)) := by
  unfold St
  rw [List.getElem?_set_self (by simpa using h.s_)]
theorem St.sett (h : Wh M o t s opts) {T'} : (St M t s T S).set t (.dic false (tkv T')) = St M t s T' S := by
  unfold St
  rw [List.set_comm _ _ h.ts.symm, List.set_set]
theorem St.sets {S'} : (St M t s T S).set s (.dic false (skv S')) = St M t s T S' := by
  unfold St
  rw [List.set_set]
/-- the keys that have not been seen -/
def cnt (T : List (Nat × Nat)) (S : List Nat) : Nat := (T.filter fun p => !decide (p.1 ∈ S)).length
theorem filter_len {α : Type} {p q : α → Bool} : ∀ {l : List α}, (∀ x ∈ l, p x = true → q x = true) → (l.filter p).length ≤ (l.filter q).length
  | [], _ => by simp
  | a :: l, h => by
    have := filter_len (l := l) fun x hx => h x (List.mem_cons_of_mem _ hx)
    have ha := h a List.mem_cons_self
    simp only [List.filter_cons]
    cases hp : p a
    · cases hq : q a <;> simp <;> omega
    · rw [ha hp]; simp; omega
theorem filter_lt {α : Type} {p q : α → Bool} {a : α} : ∀ {l : List α}, (∀ x ∈ l, p x = true → q x = true) → a ∈ l → p a = false → q a = true → (l.filter p).length < (l.filter q).length
  | [], _, h, _, _ => by cases h
  | b :: l, h, hm, hp, hq => by
    have hl := filter_len (l := l) fun x hx => h x (List.mem_cons_of_mem _ hx)
    have hb := h b List.mem_cons_self
    simp only [List.filter_cons]
    rcases List.mem_cons.mp hm with rfl | hm
    · simp [hp, hq]; omega
    · have := filter_lt (l := l) (fun x hx => h x (List.mem_cons_of_mem _ hx)) hm hp hq
      cases hp2 : p b
      · cases hq2 : q b <;> simp <;> omega
      · rw [hb hp2]; simp; omega
theorem cnt_mono {S' : List Nat} (h : ∀ x ∈ S, x ∈ S') : cnt T S' ≤ cnt T S := filter_len fun x _ hx => by
  simp only [Bool.not_eq_true', decide_eq_false_iff_not] at hx ⊢
  exact fun hm => hx (h _ hm)
theorem cnt_lt {S' : List Nat} {r l : Nat} (h : ∀ x ∈ S, x ∈ S') (hr : tg T r = some l) (h1 : r ∉ S) (h2 : r ∈ S') : cnt T S' < cnt T S :=
  filter_lt (a := (r, l)) (fun x _ hx => by
    simp only [Bool.not_eq_true', decide_eq_false_iff_not] at hx ⊢
    exact fun hm => hx (h _ hm)) (tg_mem hr) (by simpa using h2) (by simpa using h1)
def Fail (opts : List (List Nat)) (T : List (Nat × Nat)) (S : List Nat) (l : Nat) (S' : List Nat) : Prop := (∀ a, opts[l]? = some a → ∀ q ∈ a, q ∈ S') ∧ Shut opts T S S'
/-- what a call of place_left leaves -/
def After (B : Nat) (opts : List (List Nat)) (T : List (Nat × Nat)) (S : List Nat) (l : Nat) (b : Bool) (T' : List (Nat × Nat)) (S' : List Nat) : Prop :=
  Ok B S' ∧ Ok B (T'.map (·.1)) ∧ (∀ x ∈ S, x ∈ S') ∧ (b = true → Suc opts T S l T') ∧ (b = false → T' = T ∧ Fail opts T S l S')
theorem Shut.step {S1 S2 : List Nat} {r l2 : Nat} {a : List Nat} (h : Shut opts T S S1) (h2 : Shut opts T (S1 ++ [r]) S2) (hS : ∀ x ∈ S1 ++ [r], x ∈ S2) (hr : tg T r = some l2) (ha : opts[l2]? = some a) (hq : ∀ q ∈ a, q ∈ S2) : Shut opts T S S2 := by
  intro x hx hn
  by_cases h1 : x ∈ S1 ++ [r]
  · rcases List.mem_append.mp h1 with h1 | h1
    · obtain ⟨l, a', e1, e2, e3⟩ := h x h1 hn
      exact ⟨l, a', e1, e2, fun q hq => hS q (List.mem_append_left _ (e3 q hq))⟩
    · simp at h1; subst h1
      exact ⟨l2, a, hr, ha, hq⟩
  · exact h2 x hx h1
theorem place_left {B : Nat} (hB : B ≤ 100000) (h : Wh M o t s opts) (hopt : ∀ a ∈ opts, ∀ q ∈ a, q < B) (hlen : opts.length ≤ 100000) : ∀ (m l : Nat) (T : List (Nat × Nat)) (S : List Nat), cnt T S < m → l < opts.length → Ok B S → Ok B (T.map (·.1)) → Edge opts T → Inj T S → Free T S l →
    ∃ b T' S', callF P W m 8 [.ptr o, .int l, .ptr t, .ptr s] (St M t s T S) = .ok (.bl b) (St M t s T' S') ∧ After B opts T S l b T' S'
  | 0, _, _, _, hm, _, _, _, _, _, _ => by omega
  | m + 1, l, T, S, hm, hl, hS, hT, hE, hI, hF => by
    have ha : opts[l]? = some opts[l] := by simp [hl]
    have key : ∀ (rs : List Nat) (S1 : List Nat) (z : Option D), (∀ q ∈ rs, q ∈ opts[l]) → Ok B S1 → (∀ x ∈ S, x ∈ S1) → Shut opts T S S1 →
        (∃ T' S', forL (foT P W (callF P W m) (.n 4) b8_1) (nl rs) [some (.ptr o), some (.int l), some (.ptr t), some (.ptr s), z] (St M t s T S1) = some (.rt (.bl true), St M t s T' S') ∧ After B opts T S l true T' S') ∨
        (∃ z' S', forL (foT P W (callF P W m) (.n 4) b8_1) (nl rs) [some (.ptr o), some (.int l), some (.ptr t), some (.ptr s), z] (St M t s T S1) = some (.nx [some (.ptr o), some (.int l), some (.ptr t), some (.ptr s), z'], St M t s T S') ∧ Ok B S' ∧ (∀ x ∈ S1, x ∈ S') ∧ (∀ q ∈ rs, q ∈ S') ∧ Shut opts T S S') := by
      intro rs
      induction rs with
      | nil => intro S1 z _ h1 h2 h3; exact .inr ⟨z, S1, rfl, h1, fun _ h => h, fun q hq => (by cases hq), h3⟩
      | cons r rs ih =>
        intro S1 z hrs h1 h2 h3
        have hro := hrs r List.mem_cons_self
        have hrB : r < B := hopt _ (List.getElem_mem hl) r hro
        have es : cmpop .nin (.int (r : Int)) (.ptr s) (St M t s T S1) = .ok (.bl (!decide (r ∈ S1))) (St M t s T S1) := by
          rw [nin_dic (tk := false) (kvs := skv S1) (by rw [St.gs h]; rfl) (by rw [St.gs h]; rfl) rfl, dget_skv]
        have fc : ∀ ρ M', forL (foT P W (callF P W m) (.n 4) b8_1) (nl (r :: rs)) ρ M' = turn (foT P W (callF P W m) (.n 4) b8_1 (.int (r : Int)) ρ M') fun ρ' M' => forL (foT P W (callF P W m) (.n 4) b8_1) (nl rs) ρ' M' := fun _ _ => rfl
        rw [fc]
        by_cases hr : r ∈ S1
        · rcases ih S1 (some (.int r)) (fun q hq => hrs q (List.mem_cons_of_mem _ hq)) h1 h2 h3 with ⟨T', S', e, p⟩ | ⟨z', S', e, p1, p2, p3, p4⟩
          · exact .inl ⟨T', S', by simp [foT_app, b8_1, es, hr]; exact e, p⟩
          · refine .inr ⟨z', S', by simp [foT_app, b8_1, es, hr]; exact e, p1, p2, fun q hq => ?_, p4⟩
            rcases List.mem_cons.mp hq with rfl | hq
            · exact p2 _ hr
            · exact p3 q hq
        · have hbig : (skv S1).length < big := by have := h1.len; simp [skv, big, PySem.sizeLine]; omega
          have hbt : ∀ {T2 : List (Nat × Nat)}, Ok B (T2.map (·.1)) → (tkv T2).length < big := fun h => by have := h.len; simp at this; simp [tkv, big, PySem.sizeLine]; omega
          have hk1 : isKey false (D.int (r : Int)) = true := rfl
          have e1 : dput (skv S1) (.int (r : Int)) (.bl true) = skv (S1 ++ [r]) := dput_skv S1 r hr
          have et : cmpop .nin (.int (r : Int)) (.ptr t) (St M t s T (S1 ++ [r])) = .ok (.bl (!(tg T r).isSome)) (St M t s T (S1 ++ [r])) := by
            rw [nin_dic (tk := false) (kvs := tkv T) (by rw [St.gt h]; rfl) (by rw [St.gt h]; rfl) rfl, dget_tkv]
            cases tg T r <;> rfl
          have hok := h1.add hrB hr
          have hsub : ∀ x ∈ S, x ∈ S1 ++ [r] := fun x hx => List.mem_append_left _ (h2 x hx)
          have hfin : ∀ {T2 : List (Nat × Nat)} {S2 : List Nat}, Ok B (T2.map (·.1)) → (if isKey false (D.int (r : Int)) = true ∧ (tkv T2).length < big then some (Fl.nx [some (.ptr o), some (.int l), some (.ptr t), some (.ptr s), some (.int (r : Int))], (St M t s T2 S2).set t (.dic false (dput (tkv T2) (.int (r : Int)) (.int (l : Int))))) else none) = some (Fl.nx [some (.ptr o), some (.int l), some (.ptr t), some (.ptr s), some (.int (r : Int))], St M t s (tput T2 r l) S2) := by
            intro T2 S2 h2
            rw [if_pos ⟨rfl, hbt h2⟩, dput_tkv, St.sett h]
          cases htr : tg T r with
          | none =>
            refine .inl ⟨tput T r l, S1 ++ [r], ?_, hok, hT.put hrB, hsub, fun _ => ?_, fun h => (by cases h)⟩
            · have hf := hfin (S2 := S1 ++ [r]) hT
              simp [foT_app, b8_1, es, hr, St.gs h, hbig, hk1, e1, St.sets, et, htr, St.gt h]
              simp [hk1] at hf
              simp [hk1, hf]
            · refine suc_step h2 hr ha hro hE hI hF (fun x _ => rfl) (fun a b x ha hb => hI a b x (fun h => ha (hsub a h)) (fun h => hb (hsub b h))) fun x => ?_
              rw [htr]; simp
          | some l2 =>
            obtain ⟨a2, ha2, hra2⟩ := hE r l2 htr
            have hl2 : l2 < opts.length := (List.getElem?_eq_some_iff.mp ha2).1
            have hc : cnt T (S1 ++ [r]) < m := by
              have := cnt_lt (T := T) (S := S1) (S' := S1 ++ [r]) (fun x hx => List.mem_append_left _ hx) htr hr (by simp)
              have := cnt_mono (T := T) h2
              omega
            obtain ⟨b, T2, S2, e, q1, q2, q3, q4, q5⟩ := place_left hB h hopt hlen m l2 T (S1 ++ [r]) hc hl2 hok hT hE (fun a b x ha hb => hI a b x (fun h => ha (hsub a h)) (fun h => hb (hsub b h))) (fun q hq e => hq (by
              have : q = r := hI q r l2 (fun h => hq (hsub q h)) (fun h => hr (h2 r h)) e htr
              subst this; simp))
            have eix : ixd (St M t s T (S1 ++ [r])) (.ptr t) (.int (r : Int)) = .ok (.int (l2 : Int)) (St M t s T (S1 ++ [r])) := by
              simp [St.gt h, hk1, dget_tkv, htr]
            cases b with
            | true =>
              obtain ⟨s1, s2, s3, s4⟩ := q4 rfl
              refine .inl ⟨tput T2 r l, S2, ?_, q1, q2.put hrB, fun x hx => q3 x (hsub x hx), fun _ => ?_, fun h => (by cases h)⟩
              · have hf := hfin (S2 := S2) q2
                simp [foT_app, b8_1, es, hr, St.gs h, hbig, hk1, e1, St.sets, et, htr, St.gt h, dget_tkv, e]
                simp [hk1] at hf
                simp [hk1, hf]
              · refine suc_step h2 hr ha hro s4 hI hF s1 s2 fun x => ?_
                rw [s3 x, htr]
                constructor
                · rintro (rfl | h)
                  · exact .inl rfl
                  · exact .inr h
                · rintro (h | h)
                  · cases h; exact .inl rfl
                  · exact .inr h
            | false =>
              obtain ⟨rfl, f1, f2⟩ := q5 rfl
              have hsh : Shut opts T2 S S2 := h3.step f2 q3 htr ha2 (f1 a2 ha2)
              have hS2 : ∀ x ∈ S1, x ∈ S2 := fun x hx => q3 x (List.mem_append_left _ hx)
              have eb : foT P W (callF P W m) (.n 4) b8_1 (.int (r : Int)) [some (.ptr o), some (.int l), some (.ptr t), some (.ptr s), z] (St M t s T2 S1) = some (.nx [some (.ptr o), some (.int l), some (.ptr t), some (.ptr s), some (.int (r : Int))], St M t s T2 S2) := by
                simp [foT_app, b8_1, es, hr, St.gs h, hbig, hk1, e1, St.sets, et, htr, St.gt h, dget_tkv, e]
              rcases ih S2 (some (.int r)) (fun q hq => hrs q (List.mem_cons_of_mem _ hq)) q1 (fun x hx => hS2 x (h2 x hx)) hsh with ⟨T', S', e', p⟩ | ⟨z', S', e', p1, p2, p3, p4⟩
              · exact .inl ⟨T', S', by rw [eb, turn_nx]; exact e', p⟩
              · refine .inr ⟨z', S', by rw [eb, turn_nx]; exact e', p1, fun x hx => p2 x (hS2 x hx), fun q hq => ?_, p4⟩
                rcases List.mem_cons.mp hq with rfl | hq
                · exact p2 _ (q3 _ (by simp))
                · exact p3 q hq
    rw [callF_eq (k := f8) rfl rfl]
    have hg : L2.atI (od opts) (l : Int) = some (.lst (nl opts[l])) := atI_nat (by simp [hl])
    have ho := St.go (T := T) (S := S) h
    rcases key opts[l] S none (fun q hq => hq) hS (fun x hx => hx) (fun x hx hn => absurd hx hn) with ⟨T', S', e, p⟩ | ⟨z', S', e, p1, p2, p3, p4⟩
    · refine ⟨true, T', S', ?_, p⟩
      simp [f8, b8, ho, hg, e]
      exact finish_rt_same (by rw [St.len, St.len])
    · refine ⟨false, T, S', ?_, p1, hT, p2, fun h => (by cases h), fun _ => ⟨rfl, fun a ha' => ?_, p4⟩⟩
      · simp [f8, b8, ho, hg, e]
        exact finish_rt_same (by rw [St.len, St.len])
      · rw [ha] at ha'; cases ha'
        exact p3
end
end K30

/-! R30 -/
set_option maxRecDepth 100000
set_option maxHeartbeats 4000000
namespace K30
open G
variable {W : Nat}
/-- unlike items, one of each row -/
structure Sdr (opts : List (List Nat)) (ps : List Nat) : Prop where
  len : ps.length = opts.length
  nd : ps.Nodup
  mem : ∀ (i r : Nat) (a : List Nat), ps[i]? = some r → opts[i]? = some a → r ∈ a
def Dealt (opts : List (List Nat)) : Prop := ∃ ps, Sdr opts ps
section
variable {M : Store} {o : Nat} {opts : List (List Nat)} {T : List (Nat × Nat)} {S : List Nat} {B n : Nat}
theorem nodup_get {ps : List Nat} (h : ps.Nodup) {i j r : Nat} (h1 : ps[i]? = some r) (h2 : ps[j]? = some r) : i = j := by
  obtain ⟨a1, b1⟩ := List.getElem?_eq_some_iff.mp h1
  obtain ⟨a2, b2⟩ := List.getElem?_eq_some_iff.mp h2
  have hp := List.pairwise_iff_getElem.mp h
  rcases Nat.lt_trichotomy i j with hlt | he | hlt
  · exact absurd (b1.trans b2.symm) (hp i j a1 a2 hlt)
  · exact he
  · exact absurd (b2.trans b1.symm) (hp j i a2 a1 hlt)
theorem get_nodup {ps : List Nat} (h : ∀ i j r : Nat, ps[i]? = some r → ps[j]? = some r → i = j) : ps.Nodup := by
  refine List.pairwise_iff_getElem.mpr fun i j hi hj hlt e => ?_
  have := h i j ps[i] (by simp [hi]) (by rw [e]; simp [hj])
  omega
/-- a way that fails shows that there is no choice -/
theorem no_deal {l : Nat} (hl : l < opts.length) (hI : Inj T []) (hF : Free T [] l) (hE : Edge opts T) (hn : S.Nodup) (h : Fail opts T [] l S) : ¬ Dealt opts := by
  rintro ⟨ps, d⟩
  let f : Nat → Nat := fun r => ps.getD ((tg T r).getD 0) 0
  have hS : ∀ r ∈ S, ∃ l2 a q, tg T r = some l2 ∧ opts[l2]? = some a ∧ ps[l2]? = some q ∧ q ∈ S ∧ f r = q := by
    intro r hr
    obtain ⟨l2, a, e1, e2, e3⟩ := h.2 r hr (by simp)
    have hlt : l2 < ps.length := by rw [d.len]; exact (List.getElem?_eq_some_iff.mp e2).1
    have hq : ps[l2]? = some ps[l2] := by simp [hlt]
    exact ⟨l2, a, ps[l2], e1, e2, hq, e3 _ (d.mem _ _ _ hq e2), by simp [f, e1, hlt]⟩
  have hlp : l < ps.length := by rw [d.len]; exact hl
  have hq0 : ps[l]? = some ps[l] := by simp [hlp]
  have hm0 : ps[l] ∈ S := h.1 opts[l] (by simp [hl]) _ (d.mem l _ _ hq0 (by simp [hl]))
  have hnd : (ps[l] :: S.map f).Nodup := by
    rw [List.nodup_cons]
    constructor
    · intro hm
      obtain ⟨r, hr, e⟩ := List.mem_map.mp hm
      obtain ⟨l2, a, q, e1, e2, e3, e4, e5⟩ := hS r hr
      rw [e5] at e
      subst e
      have : l2 = l := nodup_get d.nd e3 hq0
      subst this
      exact hF r (by simp) e1
    · refine List.Pairwise.map f (R := fun a b => a ≠ b ∧ a ∈ S ∧ b ∈ S) ?_ ?_
      · rintro a b ⟨hab, ha, hb⟩ e
        obtain ⟨l2, _, q, e1, _, e3, _, e5⟩ := hS a ha
        obtain ⟨l3, _, q', f1, _, f3, _, f5⟩ := hS b hb
        have : q = q' := by rw [← e5, ← f5]; exact e
        subst this
        have := nodup_get d.nd e3 f3
        subst this
        exact hab (hI a b l2 (by simp) (by simp) e1 f1)
      · rw [List.pairwise_iff_getElem]
        intro i j hi hj hlt
        exact ⟨List.pairwise_iff_getElem.mp hn i j hi hj hlt, List.getElem_mem hi, List.getElem_mem hj⟩
  have := List.Nodup.length_le_of_subset hnd (l₂ := S) (by
    intro x hx
    rcases List.mem_cons.mp hx with rfl | hx
    · exact hm0
    · obtain ⟨r, hr, rfl⟩ := List.mem_map.mp hx
      obtain ⟨l2, a, q, e1, e2, e3, e4, e5⟩ := hS r hr
      rw [e5]; exact e4)
  simp at this
  omega
theorem st_app {G : Store} {T' : List (Nat × Nat)} {S' : List Nat} : St ((M ++ .dic false (tkv T) :: G) ++ [.dic false []]) M.length (M ++ .dic false (tkv T) :: G).length T' S' = (M ++ .dic false (tkv T') :: G) ++ [.dic false (skv S')] := by
  unfold St
  have e1 : (M ++ Ob.dic false (tkv T) :: G) ++ [.dic false []] = M ++ Ob.dic false (tkv T) :: (G ++ [.dic false []]) := by simp
  have e2 : (M ++ Ob.dic false (tkv T) :: G).length = (M ++ Ob.dic false (tkv T') :: G).length := by simp
  rw [e1, se0, e2]
  have e3 : M ++ Ob.dic false (tkv T') :: (G ++ [.dic false []]) = (M ++ Ob.dic false (tkv T') :: G) ++ [.dic false []] := by simp
  rw [e3, se0]
def stepP (ys : List Nat) (p : Nat × Nat) : List Nat := ys.set p.2 p.1
theorem fold_get {l r : Nat} : ∀ {T : List (Nat × Nat)} {ys : List Nat}, l < ys.length → (∀ p ∈ T, p.2 = l → p.1 = r) → ((∃ p ∈ T, p.2 = l) ∨ ys[l]? = some r) → (T.foldl stepP ys)[l]? = some r
  | [], ys, _, _, h => by
    rcases h with ⟨_, h, _⟩ | h
    · cases h
    · exact h
  | p :: T, ys, hl, h1, h2 => by
    rw [List.foldl_cons]
    refine fold_get (by simpa [stepP] using hl) (fun q hq => h1 q (List.mem_cons_of_mem _ hq)) ?_
    by_cases hp : p.2 = l
    · right
      have := h1 p List.mem_cons_self hp
      subst hp
      simp [stepP, hl, this]
    · rcases h2 with ⟨q, hq, e⟩ | h2
      · rcases List.mem_cons.mp hq with rfl | hq
        · exact absurd e hp
        · exact .inl ⟨q, hq, e⟩
      · right
        unfold stepP
        rw [List.getElem?_set_ne hp]; exact h2
theorem fold_len : ∀ {T : List (Nat × Nat)} {ys : List Nat}, (T.foldl stepP ys).length = ys.length
  | [], _ => rfl
  | p :: T, ys => by rw [List.foldl_cons, fold_len]; simp [stepP]
theorem underDs_nl {k : Nat} {l : List Nat} : underDs k (nl l) = true := by
  rw [underDs_iff]
  intro x hx
  obtain ⟨a, _, rfl⟩ := List.mem_map.mp hx
  rfl
theorem map_len (hk : (T.map (·.1)).Nodup) (hI : Inj T []) {k : Nat} (h : ∀ x, (∃ r, tg T r = some x) → x < k) : T.length ≤ k := by
  have hnd : (T.map (·.2)).Nodup := by
    rw [List.Nodup, List.pairwise_map, List.pairwise_iff_getElem]
    intro i j hi hj hlt e
    have h1 := tg_of_mem hk (r := T[i].1) (l := T[i].2) (List.getElem_mem hi)
    have h2 := tg_of_mem hk (r := T[j].1) (l := T[j].2) (List.getElem_mem hj)
    rw [← e] at h2
    have := hI _ _ _ (by simp) (by simp) h1 h2
    have hp := List.pairwise_map.mp hk
    exact List.pairwise_iff_getElem.mp hp i j hi hj hlt this
  have := List.Nodup.length_le_of_subset hnd (l₂ := List.range k) (by
    intro x hx
    obtain ⟨p, hp, rfl⟩ := List.mem_map.mp hx
    exact List.mem_range.mpr (h p.2 ⟨p.1, tg_of_mem hk hp⟩))
  simpa using this
theorem pair_up (hB : B ≤ 100000) (ho : M[o]? = some (.lst (od opts))) (hopt : ∀ a ∈ opts, ∀ q ∈ a, q < B) (hlen : opts.length ≤ 100000) (hn : opts.length < n) (hW : 100000 < W) :
    (callF P W (n + 1) 9 [.ptr o] M = .ok .non M ∧ ¬ Dealt opts) ∨ ∃ ps, callF P W (n + 1) 9 [.ptr o] M = .ok (.lst (nl ps)) M ∧ Sdr opts ps := by
  have hoM : o < M.length := (List.getElem?_eq_some_iff.mp ho).1
  have ho' : ∀ R : Store, (M ++ R)[o]? = some (.lst (od opts)) := fun R => by rw [List.getElem?_append_left hoM, ho]
  have key : ∀ m k, k + m = opts.length → ∀ T G z, Ok B (T.map (·.1)) → Edge opts T → Inj T [] → (∀ x, (∃ r, tg T r = some x) ↔ x < k) →
      (∃ R, forL (foT P W (callF P W n) (.n 2) b9_2) ((List.range' k m).map fun (i : Nat) => D.int (i : Int)) [some (.ptr o), some (.ptr M.length), z, none, none, none] (M ++ .dic false (tkv T) :: G) = some (.rt .non, M ++ R) ∧ ¬ Dealt opts) ∨
      (∃ T' G' z', forL (foT P W (callF P W n) (.n 2) b9_2) ((List.range' k m).map fun (i : Nat) => D.int (i : Int)) [some (.ptr o), some (.ptr M.length), z, none, none, none] (M ++ .dic false (tkv T) :: G) = some (.nx [some (.ptr o), some (.ptr M.length), z', none, none, none], M ++ .dic false (tkv T') :: G') ∧
        Ok B (T'.map (·.1)) ∧ Edge opts T' ∧ Inj T' [] ∧ ∀ x, (∃ r, tg T' r = some x) ↔ x < opts.length) := by
    intro m
    induction m with
    | zero =>
      intro k hk T G z h1 h2 h3 h4
      have : k = opts.length := by omega
      subst this
      exact .inr ⟨T, G, z, rfl, h1, h2, h3, h4⟩
    | succ m ih =>
      intro k hk T G z h1 h2 h3 h4
      have hkl : k < opts.length := by omega
      have hF : Free T [] k := fun r _ e => by have := (h4 k).mp ⟨r, e⟩; omega
      have hTl := map_len h1.1 h3 fun x hx => (h4 x).mp hx
      have hc : cnt T [] < n := by
        have : cnt T [] ≤ T.length := List.length_filter_le _ _
        omega
      have wh : Wh ((M ++ .dic false (tkv T) :: G) ++ [.dic false []]) o M.length (M ++ .dic false (tkv T) :: G).length opts := by
        refine ⟨?_, by simp, by simp, by omega, by simp; omega, by simp⟩
        rw [List.append_assoc]; exact ho' _
      obtain ⟨b, T', S', e, q1, q2, q3, q4, q5⟩ := place_left (W := W) hB wh hopt hlen n k T [] hc hkl ⟨List.nodup_nil, by simp⟩ h1 h2 h3 hF
      rw [st_app, st_app] at e
      have e0 : (M ++ .dic false (tkv T) :: G) ++ [.dic false (skv [])] = M ++ .dic false (tkv T) :: (G ++ [.dic false []]) := by simp [skv]
      have e9 : (M ++ .dic false (tkv T') :: G) ++ [.dic false (skv S')] = M ++ .dic false (tkv T') :: (G ++ [.dic false (skv S')]) := by simp
      rw [e0, e9] at e
      have el : (M ++ .dic false (tkv T) :: G).length = M.length + (G.length + 1) := by simp
      rw [el] at e
      rw [List.range'_succ, List.map_cons, forL]
      cases b with
      | false =>
        obtain ⟨rfl, f⟩ := q5 rfl
        left
        refine ⟨.dic false (tkv T') :: (G ++ [.dic false (skv S')]), ?_, no_deal hkl h3 hF h2 q1.1 f⟩
        simp [foT_app, b9_2, e]
      | true =>
        obtain ⟨s1, s2, s3, s4⟩ := q4 rfl
        have hx : ∀ x, (∃ r, tg T' r = some x) ↔ x < k + 1 := by
          intro x
          have := s3 x
          simp only [List.not_mem_nil, not_false_eq_true, true_and] at this
          rw [this, h4 x]; omega
        have eb : foT P W (callF P W n) (.n 2) b9_2 (.int (k : Int)) [some (.ptr o), some (.ptr M.length), z, none, none, none] (M ++ .dic false (tkv T) :: G) = some (.nx [some (.ptr o), some (.ptr M.length), some (.int (k : Int)), none, none, none], M ++ .dic false (tkv T') :: (G ++ [.dic false (skv S')])) := by
          simp [foT_app, b9_2, e]
        rw [eb, turn_nx]
        exact ih (k + 1) (by omega) T' _ _ q2 s4 s2 hx
  rw [callF_eq (k := f9) rfl rfl]
  have k0 := key opts.length 0 (by omega) [] [] none ⟨List.nodup_nil, by simp⟩ (fun r l h => by cases h) (fun _ _ _ _ _ h => by cases h) (fun x => ⟨fun ⟨r, h⟩ => (by cases h), fun h => (by omega)⟩)
  rw [← List.range_eq_range'] at k0
  simp only [tkv, List.map_nil] at k0
  rcases k0 with ⟨R, e, nd⟩ | ⟨T, G, z, e, h1, h2, h3, h4⟩
  · refine .inl ⟨?_, nd⟩
    simp [f9, b9, ho' [.dic false []], rngI_nat (show opts.length ≤ 16777216 by omega), e]
    exact finish_rt_cut rfl rfl
  · refine .inr ⟨T.foldl stepP (List.replicate opts.length 0), ?_, ?_⟩
    · have hz := lcH_map (n := o) (l := opts) (f := lcT P W (callF P W n) [some (.ptr o), some (.ptr M.length), z, none, none, none] (.n 5) .nil (.int 0)) (g := fun l => D.lst (nl l)) (k := fun _ => D.int 0) (M := M ++ .dic false (tkv T) :: G) (ho' _) (fun a _ => by simp [lcT_app, gslots, wipeR]) (by simp [big, PySem.sizeLine]; omega) opts.length 0 W (by omega) (by omega)
      have hw := walk_ptr (ho' (.dic false (tkv T) :: G))
      have hz2 : (opts.map fun _ => D.int 0) = nl (List.replicate opts.length 0) := by simp [List.map_const']
      have hlp := forL_rel (l := T) (g := fun p => D.int (p.1 : Int)) (f := foT P W (callF P W n) (.n 4) b9_1) (fun ys ρ M' => ys.length = opts.length ∧ M' = M ++ .fdic false (tkv T) :: (G ++ [.lst (nl ys)]) ∧ ∃ a, ρ = [some (.ptr o), some (.ptr M.length), z, some (.ptr (M.length + (G.length + 1))), a, none]) stepP (s := List.replicate opts.length 0) (ρ := [some (.ptr o), some (.ptr M.length), z, some (.ptr (M.length + (G.length + 1))), none, none]) (M := M ++ .fdic false (tkv T) :: (G ++ [.lst (nl (List.replicate opts.length 0))])) ⟨by simp, rfl, _, rfl⟩ ?_
      · obtain ⟨ρ', M', e2, hl, rfl, a, rfl⟩ := hlp
        have hk : ((tkv T).map (·.1)) = T.map fun p => D.int (p.1 : Int) := by simp [tkv]
        have hz3 := hz
        simp at hz3
        rw [show (List.map (fun p : Nat × Nat => (D.int (p.1 : Int), D.int (p.2 : Int))) T) = tkv T from rfl] at e
        simp [f9, b9, ho' [.dic false []], rngI_nat (show opts.length ≤ 16777216 by omega), e]
        simp only [hw, onO_some, zbind_ok, lcW_hot, hz3, hz2, newL_t, zwith_ok, zthen_nx]
        simp only [List.append_assoc, List.cons_append, List.length_append, List.length_cons, Nat.add_assoc] at *
        have hd : (M ++ (Ob.dic false (tkv T) :: (G ++ [Ob.lst (nl (List.replicate opts.length 0))])))[M.length]? = some (.dic false (tkv T)) := st0
        simp only [rSs_cons, rS_fod, List.getElem?_cons_succ, List.getElem?_cons_zero]
        rw [fodW_dic hd, se0, hk, e2]
        have h5 : (M ++ Ob.fdic false (tkv T) :: (G ++ [Ob.lst (nl (List.foldl stepP (List.replicate opts.length 0) T))]))[M.length]? = some (.fdic false (tkv T)) := st0
        simp only [unlk, h5, zthen_nx, se0]
        have h6 : (M ++ Ob.dic false (tkv T) :: (G ++ [Ob.lst (nl (List.foldl stepP (List.replicate opts.length 0) T))]))[M.length + (G.length + 1)]? = some (Ob.lst (nl (List.foldl stepP (List.replicate opts.length 0) T))) := by
          rw [List.getElem?_append_right (by omega)]; simp
        simp [h6]
        refine finish_rt_cut (R := Ob.dic false (tkv T) :: (G ++ [Ob.dead])) rfl ?_
        · simp only [underD]; exact underDs_nl
      · rintro ⟨r, l⟩ hp ys ρ M' ⟨hl, rfl, a, rfl⟩
        have hr := tg_of_mem h1.1 hp
        have hlt : l < opts.length := (h4 l).mp ⟨r, hr⟩
        have h5 : (M ++ Ob.fdic false (tkv T) :: (G ++ [Ob.lst (nl ys)]))[M.length]? = some (.fdic false (tkv T)) := st0
        have h6 : (M ++ Ob.fdic false (tkv T) :: (G ++ [Ob.lst (nl ys)]))[M.length + (G.length + 1)]? = some (Ob.lst (nl ys)) := by
          rw [List.getElem?_append_right (by omega)]; simp
        have h7 : L2.ixN ys.length (l : Int) = some l := by
          unfold L2.ixN
          rw [if_pos (by omega), if_pos (by omega)]; simp
        have hk1 : isKey false (D.int (r : Int)) = true := rfl
        refine ⟨_, _, by simp [foT_app, b9_1, h5, h6, hk1, dget_tkv, hr, h7]; exact ⟨rfl, rfl⟩, by simpa [stepP] using hl, ?_, _, rfl⟩
        simp [stepP, nl, List.map_set]
    · have hlt : ∀ l, l < opts.length → ∃ r, tg T r = some l ∧ (T.foldl stepP (List.replicate opts.length 0))[l]? = some r := by
        intro l hl
        obtain ⟨r, e⟩ := (h4 l).mpr hl
        refine ⟨r, e, fold_get (by simpa using hl) ?_ (.inl ⟨_, tg_mem e, rfl⟩)⟩
        rintro ⟨r', l'⟩ hp rfl
        exact h3 _ _ _ (by simp) (by simp) (tg_of_mem h1.1 hp) e
      have hget : ∀ l r : Nat, (T.foldl stepP (List.replicate opts.length 0))[l]? = some r → tg T r = some l := by
        intro l r e
        have hl : l < opts.length := by
          have := (List.getElem?_eq_some_iff.mp e).1
          rw [fold_len] at this; simpa using this
        obtain ⟨r', e1, e2⟩ := hlt l hl
        rw [e] at e2; cases e2; exact e1
      refine ⟨by rw [fold_len]; simp, get_nodup fun i j r h1 h2 => ?_, fun i r a h1' h2' => ?_⟩
      · have a1 := hget _ _ h1
        have a2 := hget _ _ h2
        rw [a1] at a2; cases a2; rfl
      · obtain ⟨a', e1, e2⟩ := h2 _ _ (hget _ _ h1')
        rw [h2'] at e1; cases e1; exact e2
end
end K30

/-! S30 -/
set_option maxRecDepth 100000
set_option maxHeartbeats 4000000
namespace K30
open G
variable {W : Nat}
section
variable {M : Store} {n : Nat}
def isNon : D → Bool | .non => true | _ => false
@[simp] theorem isNon_non : isNon .non = true := rfl
@[simp] theorem isNon_ptr {k : Nat} : isNon (.ptr k) = false := rfl
@[simp] theorem isNon_lst {k : List D} : isNon (.lst k) = false := rfl
@[simp] theorem isNon_tup {k : List D} : isNon (.tup k) = false := rfl
@[simp] theorem isNon_int {k : Int} : isNon (.int k) = false := rfl
@[simp] theorem rE_isN {P : Pg} {w : Nat} {cf : Nat → List D → Store → Res D} {ρ : Rho} {M : Store} {a : Xp} : runE P w cf ρ (.isN a) M = (runE P w cf ρ a M).zbind fun x M1 => .ok (.bl (isNon x)) M1 := by
  show (runE P w cf ρ a M).bind _ = (runE P w cf ρ a M).bind _
  congr 1
@[simp] theorem rE_notN {P : Pg} {w : Nat} {cf : Nat → List D → Store → Res D} {ρ : Rho} {M : Store} {a : Xp} : runE P w cf ρ (.notN a) M = (runE P w cf ρ a M).zbind fun x M1 => .ok (.bl (!isNon x)) M1 := by
  show (runE P w cf ρ a M).bind _ = (runE P w cf ρ a M).bind _
  congr 1; funext x M1; cases x <;> rfl
@[simp] theorem rT_isN {P : Pg} {w : Nat} {cf : Nat → List D → Store → Res D} {ρ : Rho} {M : Store} {a : Xp} : runT P w cf ρ (.isN a) M = (runE P w cf ρ a M).zbind fun x M1 => .ok (isNon x) M1 := by
  show (runE P w cf ρ a M).bind _ = (runE P w cf ρ a M).bind _
  congr 1
@[simp] theorem rT_notN {P : Pg} {w : Nat} {cf : Nat → List D → Store → Res D} {ρ : Rho} {M : Store} {a : Xp} : runT P w cf ρ (.notN a) M = (runE P w cf ρ a M).zbind fun x M1 => .ok (!isNon x) M1 := by
  show (runE P w cf ρ a M).bind _ = (runE P w cf ρ a M).bind _
  congr 1; funext x M1; cases x <;> rfl
def bells (c : List Lt) : Nat := (c.filter fun a => decide (a = .b)).length
def okAt (course : List Lt) (p : Pc) (i : Nat) : Bool := match course[i]? with
  | some (.h s) => decide ((bells (course.take i) : Int) < p.d) && decide (s ∈ p.x)
  | _ => false
def able (course : List Lt) (p : Pc) : List Nat := (List.range course.length).filter (okAt course p)
def opts (lot : List Pc) (course : List Lt) : List (List Nat) := lot.map (able course)
theorem flat_il {l : List Int} : (il l).all flatd = true := by simp [il, flatd]
theorem any_il {l : List Int} {s : Int} : ((il l).any fun y => flateq y (.int s)) = decide (s ∈ l) := by
  induction l with
  | nil => rfl
  | cons a l ih =>
    rw [il, List.map_cons, List.any_cons]
    have : flateq (.int a) (.int s) = decide (a = s) := by
      show (a == s) = _
      by_cases h : a = s <;> simp [h]
    rw [this]
    have h2 : ((List.map D.int l).any fun y => flateq y (.int s)) = decide (s ∈ l) := ih
    rw [h2]
    by_cases h : a = s
    · simp [h]
    · have : ¬ s = a := fun e => h e.symm
      simp [h, this]
theorem inn_il {X : D} {l : List Int} {s : Int} (h : seqOf M X = some (il l)) : cmpop .inn (.int s) X M = .ok (.bl (decide (s ∈ l))) M := by
  simp only [cmpop, h]
  rw [if_pos ⟨rfl, flat_il⟩, any_il]
theorem nin_il {X : D} {l : List Int} {s : Int} (h : seqOf M X = some (il l)) : cmpop .nin (.int s) X M = .ok (.bl (!decide (s ∈ l))) M := by
  simp only [cmpop, h]
  rw [if_pos ⟨rfl, flat_il⟩, any_il]
theorem bells_succ {c : List Lt} {i : Nat} {a : Lt} (h : c[i]? = some a) : bells (c.take (i + 1)) = bells (c.take i) + if a = .b then 1 else 0 := by
  obtain ⟨hi, e⟩ := List.getElem?_eq_some_iff.mp h
  unfold bells
  rw [List.take_succ_eq_append_getElem hi, List.filter_append, List.length_append, e]
  by_cases h : a = .b <;> simp [h]
theorem able_succ {c : List Lt} {p : Pc} {i : Nat} : (List.range (i + 1)).filter (okAt c p) = (List.range i).filter (okAt c p) ++ if okAt c p i = true then [i] else [] := by
  rw [List.range_succ, List.filter_append]
  congr 1
  cases h : okAt c p i <;> simp [List.filter, h]
theorem pairsOf_map (l : List (Int × Int)) : pairsOf (l.map pairD) = some l := by
  induction l with
  | nil => rfl
  | cons a l ih =>
    rw [List.map_cons]
    show (pairsOf (l.map pairD)).map _ = _
    rw [ih]; rfl
theorem srt_pairs {hot : Bool} (l : List (Int × Int)) : srtD hot (intsOf (l.map pairD)) (pairsOf (l.map pairD)) M = newL hot ((sortP l).map pairD) M := by
  rw [pairsOf_map]
  cases l with
  | nil =>
    have h1 : sortP [] = [] := by simp [sortP]
    have h2 : sortI [] = [] := by simp [sortI]
    show newL hot ((sortI []).map D.int) M = _
    rw [h1, h2]; rfl
  | cons a l => rfl
def prs (ps : List Nat) : List (Int × Int) := ps.zipIdx.map fun p => ((p.1 : Int), (p.2 : Int))
def hindE (lot : List Pc) (course : List Lt) : Option Er1 := (dropE lot course).or <| (pieceE lot).or (letE course)
theorem letE_ok {course : List Lt} (h : letE course = none) : ∀ a ∈ course, a.ok = true := by
  intro a ha
  obtain ⟨i, hi, e⟩ := List.getElem_of_mem ha
  have := List.findSome?_eq_none_iff.mp h i (List.mem_range.mpr hi)
  unfold letE1 at this
  have hg : course[i]? = some a := by simp [hi, e]
  rw [hg] at this
  cases hk : a.ok
  · simp [hk] at this
  · rfl
/-- the turn of a place -/
theorem place_turn {lot : List Pc} {course : List Lt} {p : Pc} {i : Nat} {N : Store} {r4 r5 r10 r11 r12 : Option D} (hi : i < course.length) (hok : ∀ a ∈ course, a.ok = true) (hl : course.length ≤ 100000) :
    ∃ r11', foT P W (callF P W n) (.n 10) b11_1 (.int (i : Int)) [some (.lst (pl lot)), some (.lst (lt course)), some (.lst (pl lot)), some (.lst (lt course)), r4, r5, some (.tup (il p.x)), some (.int p.d), some (.ptr N.length), some (.int (bells (course.take i) : Nat)), r10, r11, r12] (N ++ [.lst (nl ((List.range i).filter (okAt course p)))]) =
      some (.nx [some (.lst (pl lot)), some (.lst (lt course)), some (.lst (pl lot)), some (.lst (lt course)), r4, r5, some (.tup (il p.x)), some (.int p.d), some (.ptr N.length), some (.int (bells (course.take (i + 1)) : Nat)), some (.int (i : Int)), r11', r12], N ++ [.lst (nl ((List.range (i + 1)).filter (okAt course p)))]) := by
  have hg : course[i]? = some course[i] := by simp [hi]
  have hm := hok _ (List.getElem_mem hi)
  rw [bells_succ hg, able_succ]
  have hbig : ((List.range i).filter (okAt course p)).length < big := by
    have := List.length_filter_le (okAt course p) (List.range i)
    simp at this
    simp [big, PySem.sizeLine]; omega
  have hga := lt_get hg
  have hok2 : okAt course p i = match course[i] with | .h s => decide ((bells (course.take i) : Int) < p.d) && decide (s ∈ p.x) | _ => false := by
    unfold okAt; rw [hg]; cases course[i] <;> rfl
  generalize hb : course[i] = a at *
  refine ⟨some a.D, ?_⟩
  have e1 := sd_b (M := N ++ [.lst (nl ((List.range i).filter (okAt course p)))]) a
  have e2 := sd_h (M := N ++ [.lst (nl ((List.range i).filter (okAt course p)))]) a
  cases a with
  | b =>
    simp only [Lt.k, Lt.isB, Lt.isH] at e1 e2
    simp [foT_app, b11_1, hga, lt_D, Lt.r, Lt.k, at0, e1, e2, hok2]
  | h s =>
    simp only [Lt.k, Lt.isB, Lt.isH] at e1 e2
    have e3 := inn_il (M := N ++ [.lst (nl ((List.range i).filter (okAt course p)))]) (X := .tup (il p.x)) (l := p.x) (s := s) rfl
    by_cases h1 : (bells (course.take i) : Int) < p.d
    · by_cases h2 : s ∈ p.x
      · simp [foT_app, b11_1, hga, lt_D, Lt.r, Lt.k, at0, at1, e1, e2, hok2, h1, e3, h2]
        rw [if_pos hbig]
        simp
      · simp [foT_app, b11_1, hga, lt_D, Lt.r, Lt.k, at0, at1, e1, e2, hok2, h1, e3, h2]
    · simp [foT_app, b11_1, hga, lt_D, Lt.r, Lt.k, at0, at1, e1, e2, hok2, h1]
  | w v =>
    simp only [Lt.k, Lt.isB, Lt.isH] at e1 e2
    simp [foT_app, b11_1, hga, lt_D, Lt.r, Lt.k, at0, e1, e2, hok2]
  | _ => cases hm

theorem place_loop {lot : List Pc} {course : List Lt} {p : Pc} {N : Store} {r4 r5 r10 r11 r12 : Option D} (hok : ∀ a ∈ course, a.ok = true) (hl : course.length ≤ 100000) :
    ∃ r9 r10' r11', forL (foT P W (callF P W n) (.n 10) b11_1) ((List.range course.length).map fun (i : Nat) => D.int (i : Int)) [some (.lst (pl lot)), some (.lst (lt course)), some (.lst (pl lot)), some (.lst (lt course)), r4, r5, some (.tup (il p.x)), some (.int p.d), some (.ptr N.length), some (.int 0), r10, r11, r12] (N ++ [.lst []]) =
      some (.nx [some (.lst (pl lot)), some (.lst (lt course)), some (.lst (pl lot)), some (.lst (lt course)), r4, r5, some (.tup (il p.x)), some (.int p.d), some (.ptr N.length), r9, r10', r11', r12], N ++ [.lst (nl (able course p))]) := by
  have key := forL_inv (l := List.range course.length) (g := fun (i : Nat) => D.int (i : Int)) (f := foT P W (callF P W n) (.n 10) b11_1) (fun i ρ M' => M' = N ++ [.lst (nl ((List.range i).filter (okAt course p)))] ∧ ∃ a b, ρ = [some (.lst (pl lot)), some (.lst (lt course)), some (.lst (pl lot)), some (.lst (lt course)), r4, r5, some (.tup (il p.x)), some (.int p.d), some (.ptr N.length), some (.int (bells (course.take i) : Nat)), a, b, r12])
    (ρ := [some (.lst (pl lot)), some (.lst (lt course)), some (.lst (pl lot)), some (.lst (lt course)), r4, r5, some (.tup (il p.x)), some (.int p.d), some (.ptr N.length), some (.int 0), r10, r11, r12]) (M := N ++ [.lst []]) ⟨by simp, _, _, by simp [bells]; exact ⟨rfl, rfl⟩⟩ ?_
  · obtain ⟨ρ', M', e, rfl, a, b, rfl⟩ := key
    simp only [List.length_range] at e
    exact ⟨_, _, _, e⟩
  · rintro i _ ρ M' h ⟨rfl, a, b, rfl⟩
    obtain ⟨hi, rfl⟩ := range_get h
    obtain ⟨c, e⟩ := place_turn (W := W) (n := n) (lot := lot) (p := p) (N := N) (r4 := r4) (r5 := r5) (r10 := a) (r11 := b) (r12 := r12) hi hok hl
    exact ⟨_, _, e, rfl, _, _, rfl⟩
theorem hindsight (lot : List Pc) (course : List Lt) (hl : lot.length ≤ 100000) (hc : course.length ≤ 100000) (hx : ∀ p ∈ lot, p.x.length ≤ 100000) (hn : lot.length < n + 2) (hW : 100000 < W) :
    match hindE lot course with
    | some e => callF P W (n + 4) 11 [.lst (pl lot), .lst (lt course)] M = .err e.1 e.2 M
    | none => (callF P W (n + 4) 11 [.lst (pl lot), .lst (lt course)] M = .ok .non M ∧ ¬ Dealt (opts lot course)) ∨ ∃ ps R, callF P W (n + 4) 11 [.lst (pl lot), .lst (lt course)] M = .ok (.ptr (M.length + R.length)) (M ++ R ++ [.lst ((sortP (prs ps)).map pairD)]) ∧ Sdr (opts lot course) ps := by
  rw [callF_eq (k := f11) rfl rfl]
  have p2 : callF P W (n + 3) 2 [.lst (pl lot)] M = .ok (.lst (pl lot)) M := piece_rows (n := n + 2) lot hl
  have p3 : callF P W (n + 3) 3 [.lst [.lst (pl lot)], .lst (lt course)] M = resE (dropE lot course) M := check_drops (n := n) lot course hl hc
  have p4 : callF P W (n + 3) 4 [.lst [.lst (pl lot)]] M = resE (pieceE lot) M := check_pieces (n := n + 2) lot hx
  have p6 : callF P W (n + 3) 6 [.lst (lt course)] M = resE (letE course) M := check_letters (n := n) course hc
  have hlc := lcA_map (l := course) (acc := []) (f := lcT P W (callF P W (n + 3)) [some (.lst (pl lot)), some (.lst (lt course)), some (.lst (pl lot)), none, none, none, none, none, none, none, none, none, none] (.n 11) .nil (.bi .tuple (.cons (.v 11) .nil))) (g := Lt.D) (k := Lt.D) (M := M) (fun a _ => by simp [lcT_app, lt_D, gslots, wipeR]) (by simp [big, PySem.sizeLine]; omega)
  simp only [List.nil_append] at hlc
  simp [f11, b11, p2, hlc, p3]
  unfold hindE
  cases h1 : dropE lot course with
  | some e => simp
  | none =>
  simp [p4]
  cases h2 : pieceE lot with
  | some e => simp
  | none =>
  simp [p6]
  cases h3 : letE course with
  | some e => simp
  | none =>
  have hok := letE_ok h3
  simp
  have key := forL_inv (l := lot) (g := Pc.D) (f := foT P W (callF P W (n + 3)) (.t [6, 7]) b11_2) (fun i ρ M' => ∃ G, M' = M ++ .lst (od (opts (lot.take i) course)) :: G ∧ ∃ a b c d e f, ρ = [some (.lst (pl lot)), some (.lst (lt course)), some (.lst (pl lot)), some (.lst (lt course)), some (.ptr M.length), none, a, b, c, d, e, f, none])
    (ρ := [some (.lst (pl lot)), some (.lst (lt course)), some (.lst (pl lot)), some (.lst (lt course)), some (.ptr M.length), none, none, none, none, none, none, none, none]) (M := M ++ [.lst []]) ⟨[], by simp [opts], _, _, _, _, _, _, rfl⟩ ?_
  · obtain ⟨ρ', M', e, G, rfl, a, b, c, d, e', f, rfl⟩ := key
    rw [List.take_length] at e
    simp [e]
    have ho : (M ++ Ob.lst (od (opts lot course)) :: G)[M.length]? = some (.lst (od (opts lot course))) := st0
    have hp := pair_up (W := W) (B := 100000) (n := n + 2) (by omega) ho (fun a ha q hq => by
      obtain ⟨p, hp, rfl⟩ := List.mem_map.mp ha
      have := List.mem_range.mp (List.mem_filter.mp hq).1
      omega) (by simpa [opts] using hl) (by simpa [opts] using hn) hW
    have e3 : n + 2 + 1 = n + 3 := rfl
    rw [e3] at hp
    rcases hp with ⟨e1, nd⟩ | ⟨ps, e1, sd⟩
    · left
      refine ⟨?_, nd⟩
      simp [e1]
      exact finish_rt_cut rfl rfl
    · right
      refine ⟨ps, ⟨Ob.lst (od (opts lot course)) :: G, ?_⟩, sd⟩
      have hpl : ps.length = lot.length := by rw [sd.len]; simp [opts]
      have hps := lcA_map (l := List.range lot.length) (acc := []) (f := lcT P W (callF P W (n + 3)) [some (.lst (pl lot)), some (.lst (lt course)), some (.lst (pl lot)), some (.lst (lt course)), some (.ptr M.length), some (.lst (nl ps)), a, b, c, d, e', f, none] (.n 12) .nil (.tup (.cons (.ix (.v 5) (.v 12)) (.cons (.v 12) .nil)))) (g := fun (i : Nat) => D.int (i : Int)) (k := fun i => pairD (((ps.getD i 0 : Nat) : Int), (i : Int))) (M := M ++ Ob.lst (od (opts lot course)) :: G) (fun i hi => by
        have hi := range_mem hi
        have : L2.atI (nl ps) (i : Int) = some (.int ((ps.getD i 0 : Nat) : Int)) := atI_nat (by simp [hpl, hi])
        simp [lcT_app, gslots, wipeR, this, pairD]) (by simp [big, PySem.sizeLine]; omega)
      simp only [List.nil_append] at hps
      have hpp : (List.range lot.length).map (fun i => pairD (((ps.getD i 0 : Nat) : Int), (i : Int))) = (prs ps).map pairD := by
        unfold prs
        rw [List.map_map]
        refine List.ext_getElem (by simp [hpl]) fun i h1 h2 => ?_
        simp at h2
        simp [h2]
      rw [hpp] at hps
      simp [e1, rngI_nat (show lot.length ≤ 16777216 by omega), hps, srt_pairs]
      rw [finish_rt_keep (by simp [underD])]
  · rintro i p ρ M' hp ⟨G, rfl, a, b, c, d, e, f, rfl⟩
    obtain ⟨r9, r10, r11, e9⟩ := place_loop (W := W) (n := n + 3) (lot := lot) (course := course) (p := p) (N := M ++ .lst (od (opts (lot.take i) course)) :: G) (r4 := some (.ptr M.length)) (r5 := none) (r10 := e) (r11 := f) (r12 := none) hok hc
    simp at e9
    have hlt := (List.getElem?_eq_some_iff.mp hp).1
    have ht : od (opts (lot.take (i + 1)) course) = od (opts (lot.take i) course) ++ [.lst (nl (able course p))] := by
      have hg := (List.getElem?_eq_some_iff.mp hp).2
      rw [List.take_succ_eq_append_getElem hlt, hg]
      simp [opts]
    have hbig : (opts (lot.take i) course).length < big := by simp [opts, big, PySem.sizeLine]; omega
    have s0 : ∀ R, (M ++ Ob.lst (od (opts (lot.take i) course)) :: R)[M.length]? = some (.lst (od (opts (lot.take i) course))) := fun R => st0
    refine ⟨_, _, by
      simp [foT_app, b11_2, pc_D, bindG_t, rngI_nat (show course.length ≤ 16777216 by omega)]
      simp [e9, List.getElem?_append_right, s0, hbig]
      exact ⟨⟨rfl, rfl, rfl, rfl, rfl, rfl⟩, rfl⟩, G ++ [.dead], ?_, _, _, _, _, _, _, rfl⟩
    rw [ht]
end
end K30

/-! U30 -/
set_option maxRecDepth 100000
set_option maxHeartbeats 4000000
namespace K30
open G
variable {W : Nat}
section
variable {M : Store} {n : Nat}
@[simp] theorem rS_aug {P : Pg} {w : Nat} {cf : Nat → List D → Store → Res D} {ρ : Rho} {M : Store} {i : Nat} {o : Bop} {e : Xp} : runS P w cf (.aug i o e) ρ M = oD ρ[i]? fun x => zwith (runE P w cf ρ e M) ρ fun y M1 => oI x fun a => oI y fun b => match o with
    | .add => some (.nx (ρ.set i (some (.int (a + b)))), M1)
    | .sub => some (.nx (ρ.set i (some (.int (a - b)))), M1)
    | _ => none := by
  show (match ρ[i]? with | some (some x) => withE (runE P w cf ρ e M) ρ _ | _ => none) = _
  cases h : ρ[i]? with
  | none => rfl
  | some y =>
    cases y with
    | none => rfl
    | some x =>
      simp only [oD_some]
      refine congrArg _ (funext fun y => funext fun M1 => ?_)
      cases x <;> cases y <;> rfl
mutual
theorem eqd_refl : ∀ (d : D) (k : Nat), okd k d = true → eqd d d = true
  | .non, _, _ => rfl
  | .bl b, _, _ => by show (b == b) = true; simp
  | .int b, _, _ => by show (b == b) = true; simp
  | .str b, _, _ => by show (b == b) = true; simp
  | .tup xs, 0, h => by cases h
  | .lst xs, 0, h => by cases h
  | .tup xs, k + 1, h => by rw [okd] at h; exact eqds_refl xs k h
  | .lst xs, k + 1, h => by rw [okd] at h; exact eqds_refl xs k h
  | .scr _, k, h => by cases k <;> cases h
  | .ptr _, k, h => by cases k <;> cases h
theorem eqds_refl : ∀ (xs : List D) (k : Nat), xs.all (okd k) = true → eqds xs xs = true
  | [], _, _ => rfl
  | x :: xs, k, h => by
    rw [List.all_cons, Bool.and_eq_true] at h
    show (eqd x x && eqds xs xs) = true
    rw [eqd_refl x k h.1, eqds_refl xs k h.2]; rfl
end
theorem ne_same {d : D} (h : okd 12 (G.top M d) = true) : cmpop .ne d d M = .ok (.bl false) M := by
  rw [ne_dd h h, eqd_refl _ _ h]; rfl
theorem eq_same {d : D} (h : okd 12 (G.top M d) = true) : cmpop .eq d d M = .ok (.bl true) M := by
  rw [eq_dd h h, eqd_refl _ _ h]
theorem okd_lt {k : Nat} (a : Lt) : okd (k + 1) a.D = true := by
  rw [lt_D, okd]
  have := ks a
  cases a <;> simp_all [okd, Lt.r]
theorem okd_lts {k : Nat} {c : List Lt} : okd (k + 2) (.lst (lt c)) = true := by
  rw [okd]; simp [okd_lt]
theorem able_turn {lot : List Pc} {course : List Lt} {p : Pc} {i : Nat} {N : Store} {r2 r7 : Option D} (hi : i < course.length) (hok : ∀ a ∈ course, a.ok = true) (hl : course.length ≤ 100000) :
    foT P W (callF P W n) (.n 7) b23_1 (.int (i : Int)) [some (.lst (pl lot)), some (.lst (lt course)), r2, some (.tup (il p.x)), some (.int p.d), some (.int (bells (course.take i) : Nat)), some (.ptr N.length), r7] (N ++ [.lst (nl ((List.range i).filter (okAt course p)))]) =
      some (.nx [some (.lst (pl lot)), some (.lst (lt course)), r2, some (.tup (il p.x)), some (.int p.d), some (.int (bells (course.take (i + 1)) : Nat)), some (.ptr N.length), some (.int (i : Int))], N ++ [.lst (nl ((List.range (i + 1)).filter (okAt course p)))]) := by
  have hg : course[i]? = some course[i] := by simp [hi]
  have hm := hok _ (List.getElem_mem hi)
  rw [bells_succ hg, able_succ]
  have hbig : ((List.range i).filter (okAt course p)).length < big := by
    have := List.length_filter_le (okAt course p) (List.range i)
    simp at this
    simp [big, PySem.sizeLine]; omega
  have hga := lt_get hg
  have hok2 : okAt course p i = match course[i] with | .h s => decide ((bells (course.take i) : Int) < p.d) && decide (s ∈ p.x) | _ => false := by
    unfold okAt; rw [hg]; cases course[i] <;> rfl
  generalize hb : course[i] = a at *
  have e1 := eq_bell (M := N ++ [.lst (nl ((List.range i).filter (okAt course p)))]) a
  have e2 := sd_h (M := N ++ [.lst (nl ((List.range i).filter (okAt course p)))]) a
  cases a with
  | b =>
    simp only [Lt.k, Lt.isH, lt_D, Lt.r] at e1 e2
    simp [foT_app, b23_1, hga, lt_D, Lt.r, Lt.k, at0, e1, e2, hok2]
  | h s =>
    simp only [Lt.k, Lt.isH, lt_D, Lt.r] at e1 e2
    have e3 := inn_il (M := N ++ [.lst (nl ((List.range i).filter (okAt course p)))]) (X := .tup (il p.x)) (l := p.x) (s := s) rfl
    by_cases h1 : (bells (course.take i) : Int) < p.d
    · by_cases h2 : s ∈ p.x
      · simp [foT_app, b23_1, hga, lt_D, Lt.r, Lt.k, at0, at1, e1, e2, hok2, h1, e3, h2]
        rw [if_pos hbig]
        simp
      · simp [foT_app, b23_1, hga, lt_D, Lt.r, Lt.k, at0, at1, e1, e2, hok2, h1, e3, h2]
    · simp [foT_app, b23_1, hga, lt_D, Lt.r, Lt.k, at0, at1, e1, e2, hok2, h1]
  | w v =>
    simp only [Lt.k, Lt.isH, lt_D, Lt.r] at e1 e2
    simp [foT_app, b23_1, hga, lt_D, Lt.r, Lt.k, at0, e1, e2, hok2]
  | _ => cases hm
theorem able_loop {lot : List Pc} {course : List Lt} {p : Pc} {N : Store} {r2 r7 : Option D} (hok : ∀ a ∈ course, a.ok = true) (hl : course.length ≤ 100000) :
    ∃ r5 r7', forL (foT P W (callF P W n) (.n 7) b23_1) ((List.range course.length).map fun (i : Nat) => D.int (i : Int)) [some (.lst (pl lot)), some (.lst (lt course)), r2, some (.tup (il p.x)), some (.int p.d), some (.int 0), some (.ptr N.length), r7] (N ++ [.lst []]) =
      some (.nx [some (.lst (pl lot)), some (.lst (lt course)), r2, some (.tup (il p.x)), some (.int p.d), r5, some (.ptr N.length), r7'], N ++ [.lst (nl (able course p))]) := by
  have key := forL_inv (l := List.range course.length) (g := fun (i : Nat) => D.int (i : Int)) (f := foT P W (callF P W n) (.n 7) b23_1) (fun i ρ M' => M' = N ++ [.lst (nl ((List.range i).filter (okAt course p)))] ∧ ∃ b, ρ = [some (.lst (pl lot)), some (.lst (lt course)), r2, some (.tup (il p.x)), some (.int p.d), some (.int (bells (course.take i) : Nat)), some (.ptr N.length), b])
    (ρ := [some (.lst (pl lot)), some (.lst (lt course)), r2, some (.tup (il p.x)), some (.int p.d), some (.int 0), some (.ptr N.length), r7]) (M := N ++ [.lst []]) ⟨by simp, _, by simp [bells]; rfl⟩ ?_
  · obtain ⟨ρ', M', e, rfl, b, rfl⟩ := key
    simp only [List.length_range] at e
    exact ⟨_, _, e⟩
  · rintro i _ ρ M' h ⟨rfl, b, rfl⟩
    obtain ⟨hi, rfl⟩ := range_get h
    exact ⟨_, _, able_turn (W := W) (n := n) (lot := lot) (p := p) (N := N) (r2 := r2) (r7 := b) hi hok hl, rfl, _, rfl⟩
theorem underDs_od {k : Nat} {l : List (List Nat)} : underDs k (od l) = true := by
  rw [underDs_iff]
  intro x hx
  obtain ⟨a, _, rfl⟩ := List.mem_map.mp hx
  simp only [underD]; exact underDs_nl
theorem law_able (lot : List Pc) (course : List Lt) (hl : lot.length ≤ 100000) (hc : course.length ≤ 100000) (hok : ∀ a ∈ course, a.ok = true) : callF P W (n + 1) 23 [.lst (pl lot), .lst (lt course)] M = .ok (.lst (od (opts lot course))) M := by
  rw [callF_eq (k := f23) rfl rfl]
  have key := forL_inv (l := lot) (g := Pc.D) (f := foT P W (callF P W n) (.t [3, 4]) b23_2) (fun i ρ M' => ∃ G, M' = M ++ .lst (od (opts (lot.take i) course)) :: G ∧ ∃ a b c d e, ρ = [some (.lst (pl lot)), some (.lst (lt course)), some (.ptr M.length), a, b, c, d, e])
    (ρ := [some (.lst (pl lot)), some (.lst (lt course)), some (.ptr M.length), none, none, none, none, none]) (M := M ++ [.lst []]) ⟨[], by simp [opts], _, _, _, _, _, rfl⟩ ?_
  · obtain ⟨ρ', M', e, G, rfl, a, b, c, d, e', rfl⟩ := key
    rw [List.take_length] at e
    have s0 : (M ++ Ob.lst (od (opts lot course)) :: G)[M.length]? = some (.lst (od (opts lot course))) := st0
    simp [f23, b23, e, s0, se0]
    refine finish_rt_cut rfl ?_
    simp only [underD]; exact underDs_od
  · rintro i p ρ M' hp ⟨G, rfl, a, b, c, d, e, rfl⟩
    obtain ⟨r5, r7, e9⟩ := able_loop (W := W) (n := n) (lot := lot) (course := course) (p := p) (N := M ++ .lst (od (opts (lot.take i) course)) :: G) (r2 := some (.ptr M.length)) (r7 := e) hok hc
    simp at e9
    have hlt := (List.getElem?_eq_some_iff.mp hp).1
    have ht : od (opts (lot.take (i + 1)) course) = od (opts (lot.take i) course) ++ [.lst (nl (able course p))] := by
      have hg := (List.getElem?_eq_some_iff.mp hp).2
      rw [List.take_succ_eq_append_getElem hlt, hg]
      simp [opts]
    have hbig : (opts (lot.take i) course).length < big := by simp [opts, big, PySem.sizeLine]; omega
    have s0 : ∀ R, (M ++ Ob.lst (od (opts (lot.take i) course)) :: R)[M.length]? = some (.lst (od (opts (lot.take i) course))) := fun R => st0
    refine ⟨_, _, by
      simp [foT_app, b23_2, pc_D, bindG_t, rngI_nat (show course.length ≤ 16777216 by omega)]
      simp [e9, List.getElem?_append_right, s0, hbig]
      exact ⟨⟨rfl, rfl, rfl, rfl, rfl⟩, rfl⟩, G ++ [.dead], ?_, _, _, _, _, _, rfl⟩
    rw [ht]
def dl : List (List Nat) → List Nat → Bool
  | [], _ => true
  | a :: r, used => a.any fun q => !decide (q ∈ used) && dl r (used ++ [q])
theorem dl_iff : ∀ (opts : List (List Nat)) (used : List Nat), dl opts used = true ↔ ∃ ps, Sdr opts ps ∧ ∀ q ∈ ps, q ∉ used
  | [], used => by
    simp only [dl, true_iff]
    exact ⟨[], ⟨rfl, List.nodup_nil, fun i r a h => by simp at h⟩, fun q h => by cases h⟩
  | a :: r, used => by
    rw [dl, List.any_eq_true]
    constructor
    · rintro ⟨q, hq, h⟩
      simp only [Bool.and_eq_true, Bool.not_eq_true', decide_eq_false_iff_not] at h
      obtain ⟨ps, d, hd⟩ := (dl_iff r _).mp h.2
      refine ⟨q :: ps, ⟨by simp [d.len], ?_, ?_⟩, ?_⟩
      · rw [List.nodup_cons]
        exact ⟨fun hm => hd q hm (by simp), d.nd⟩
      · intro i x b h1 h2
        cases i with
        | zero => simp at h1 h2; subst h1 h2; exact hq
        | succ i => exact d.mem i x b (by simpa using h1) (by simpa using h2)
      · intro x hx
        rcases List.mem_cons.mp hx with rfl | hx
        · exact h.1
        · exact fun hm => hd x hx (List.mem_append_left _ hm)
    · rintro ⟨ps, d, hd⟩
      cases ps with
      | nil => have := d.len; simp at this
      | cons q ps =>
        have hn := List.nodup_cons.mp d.nd
        refine ⟨q, d.mem 0 q a rfl rfl, ?_⟩
        simp only [Bool.and_eq_true, Bool.not_eq_true', decide_eq_false_iff_not]
        refine ⟨hd q List.mem_cons_self, (dl_iff r _).mpr ⟨ps, ⟨by have := d.len; simpa using this, hn.2, fun i x b h1 h2 => d.mem (i + 1) x b (by simpa using h1) (by simpa using h2)⟩, fun x hx hm => ?_⟩⟩
        rcases List.mem_append.mp hm with hm | hm
        · exact hd x (List.mem_cons_of_mem _ hx) hm
        · simp at hm; subst hm; exact hn.1 hx
theorem seq_nl {l : List Nat} : nl l = il (l.map fun (k : Nat) => (k : Int)) := by simp [nl, il]
theorem law_dealt : ∀ (m : Nat) (opts : List (List Nat)) (used : List Nat), opts.length ≤ 100000 → used.length ≤ opts.length → opts.length - used.length < m → callF P W m 24 [.lst (od opts), .lst (nl used)] M = .ok (.bl (dl (opts.drop used.length) used)) M
  | 0, _, _, _, _, h => by omega
  | m + 1, opts, used, ho, hu, hm => by
    rw [callF_eq (k := f24) rfl rfl]
    by_cases he : used.length = opts.length
    · simp [f24, b24, he, dl]
    · have hlt : used.length < opts.length := by omega
      have hne : ((used.length : Int) == (opts.length : Int)) = false := by
        rw [beq_eq_false_iff_ne]; omega
      have hg : L2.atI (od opts) (used.length : Int) = some (.lst (nl opts[used.length])) := atI_nat (by simp [hlt])
      have key := forL_ret (l := opts[used.length]) (g := fun (k : Nat) => D.int (k : Int)) (f := foT P W (callF P W m) (.n 2) b24_1) (fun ρ M' => M' = M ∧ ∃ a, ρ = [some (.lst (od opts)), some (.lst (nl used)), a]) (fun q => if !decide (q ∈ used) && dl (opts.drop (used.length + 1)) (used ++ [q]) then some (.bl true) else none) (ρ := [some (.lst (od opts)), some (.lst (nl used)), none]) (M := M) ⟨rfl, _, rfl⟩ (fun _ _ h => h.1) ?_
      · rw [List.drop_eq_getElem_cons hlt, dl]
        have hne2 : ¬ (used.length : Int) = (opts.length : Int) := by omega
        simp [f24, b24, hg, hne]
        cases ha : (opts[used.length].any fun q => !decide (q ∈ used) && dl (opts.drop (used.length + 1)) (used ++ [q])) with
        | true =>
          have : opts[used.length].findSome? (fun q => if !decide (q ∈ used) && dl (opts.drop (used.length + 1)) (used ++ [q]) then some (D.bl true) else none) = some (.bl true) := by
            cases hb : opts[used.length].findSome? (fun q => if !decide (q ∈ used) && dl (opts.drop (used.length + 1)) (used ++ [q]) then some (D.bl true) else none) with
            | none =>
              obtain ⟨q, hq, e⟩ := List.any_eq_true.mp ha
              have := List.findSome?_eq_none_iff.mp hb q hq
              rw [if_pos e] at this; cases this
            | some d =>
              obtain ⟨q, hq, e⟩ := List.exists_of_findSome?_eq_some hb
              split at e
              · cases e; rfl
              · cases e
          rw [this] at key
          simp [key]
        | false =>
          have : opts[used.length].findSome? (fun q => if !decide (q ∈ used) && dl (opts.drop (used.length + 1)) (used ++ [q]) then some (D.bl true) else none) = none := by
            rw [List.findSome?_eq_none_iff]
            intro q hq
            have := (List.any_eq_false.mp ha) q hq
            rw [if_neg this]
          rw [this] at key
          obtain ⟨ρ', e, _, a, rfl⟩ := key
          simp [e]
      · rintro q hq ρ ⟨_, a, rfl⟩
        have e1 := nin_il (M := M) (X := .lst (nl used)) (l := used.map fun (k : Nat) => (k : Int)) (s := (q : Int)) (by rw [← seq_nl]; rfl)
        have e2 : decide ((q : Int) ∈ used.map fun (k : Nat) => (k : Int)) = decide (q ∈ used) := by
          simp only [List.mem_map, decide_eq_decide]
          constructor
          · rintro ⟨x, hx, e⟩
            have : x = q := by omega
            exact this ▸ hx
          · exact fun h => ⟨q, h, rfl⟩
        rw [e2] at e1
        have e3 : binop .add (.lst (nl used)) (.lst [.int (q : Int)]) M = .ok (.lst (nl (used ++ [q]))) M := by
          rw [add_ll (by simp [big, PySem.sizeLine]; omega)]; simp [nl]
        have e4 := law_dealt m opts (used ++ [q]) ho (by simp; omega) (by simp; omega)
        rw [List.length_append] at e4
        simp only [List.length_singleton] at e4
        generalize nl (used ++ [q]) = X at e3 e4
        by_cases h1 : q ∈ used
        · simp [foT_app, b24_1, e1, h1]
        · cases h2 : dl (opts.drop (used.length + 1)) (used ++ [q]) with
          | true =>
            rw [h2] at e4
            simp [foT_app, b24_1, e1, h1, e3, e4]
          | false =>
            rw [h2] at e4
            simp [foT_app, b24_1, e1, h1, e3, e4]
end
end K30

/-! W30 -/
set_option maxRecDepth 100000
set_option maxHeartbeats 4000000
namespace K30
open G
variable {W : Nat}
section
variable {M : Store} {n : Nat}
def nameE : Nat → PySem.Str | 1 => "bad piece" | 2 => "bad letter" | _ => "many"
theorem told_err {lot : List Pc} {course : List Lt} {k : Nat} {x : D} (he : hindE lot course = some (k, [x])) (hk : k = 0 ∨ k = 1 ∨ k = 2) (hl : lot.length ≤ 100000) (hc : course.length ≤ 100000) (hx : ∀ p ∈ lot, p.x.length ≤ 100000) (hn : lot.length < n + 2) (hW : 100000 < W) :
    callF P W (n + 5) 25 [.lst (pl lot), .lst (lt course)] M = .ok (.tup [.str (nameE k), x]) M := by
  have h := hindsight (W := W) (M := M) (n := n) lot course hl hc hx hn hW
  rw [he] at h
  rw [callF_eq (k := f25) rfl rfl]
  simp only at h
  rcases hk with rfl | rfl | rfl
  · simp [f25, b25, rS_try, h, handle, er0, er1, er2, runH, runH.runHs, getF, nameE]
  · simp [f25, b25, rS_try, h, handle, er0, er1, er2, runH, runH.runHs, getF, nameE]
  · simp [f25, b25, rS_try, h, handle, er0, er1, er2, runH, runH.runHs, getF, nameE]
theorem told_ok {lot : List Pc} {course : List Lt} (he : hindE lot course = none) (hl : lot.length ≤ 100000) (hc : course.length ≤ 100000) (hx : ∀ p ∈ lot, p.x.length ≤ 100000) (hn : lot.length < n + 2) (hW : 100000 < W) :
    (callF P W (n + 5) 25 [.lst (pl lot), .lst (lt course)] M = .ok .non M ∧ ¬ Dealt (opts lot course)) ∨ ∃ ps R, callF P W (n + 5) 25 [.lst (pl lot), .lst (lt course)] M = .ok (.ptr (M.length + R.length)) (M ++ R ++ [.lst ((sortP (prs ps)).map pairD)]) ∧ Sdr (opts lot course) ps := by
  have h := hindsight (W := W) (M := M) (n := n) lot course hl hc hx hn hW
  rw [he] at h
  rw [callF_eq (k := f25) rfl rfl]
  simp only at h
  rcases h with ⟨h, nd⟩ | ⟨ps, R, h, sd⟩
  · left
    refine ⟨?_, nd⟩
    simp [f25, b25, rS_try, h]
  · right
    refine ⟨ps, R, ?_, sd⟩
    simp [f25, b25, rS_try, h]
    rw [finish_rt_keep (by simp [underD])]
theorem sortP_perm (ps : List (Int × Int)) : (sortP ps).Perm ps := List.mergeSort_perm _ _
theorem sortP_le (ps : List (Int × Int)) : (sortP ps).Pairwise fun a b => a.1 ≤ b.1 := by
  have h : ∀ a b : Int × Int, ((decide (a.1 < b.1) || (decide (a.1 = b.1) && decide (a.2 ≤ b.2))) = true) ↔ (a.1 < b.1 ∨ (a.1 = b.1 ∧ a.2 ≤ b.2)) := fun a b => by simp
  have := List.pairwise_mergeSort (le := fun a b : Int × Int => decide (a.1 < b.1) || (decide (a.1 = b.1) && decide (a.2 ≤ b.2))) (fun a b c h1 h2 => by rw [h] at *; omega) (fun a b => by
    rw [Bool.or_eq_true, h, h]; omega) ps
  exact this.imp (by intro a b h'; rw [h] at h'; omega)
theorem sortI_perm (ns : List Int) : (sortI ns).Perm ns := List.mergeSort_perm _ _
theorem sortI_sorted (ns : List Int) : (sortI ns).Pairwise (· ≤ ·) := by
  have := List.pairwise_mergeSort (le := fun a b : Int => decide (a ≤ b)) (fun a b c h1 h2 => by simp at *; omega) (fun a b => by simp; omega) ns
  exact this.imp (by intro a b h; simpa using h)
theorem sortI_is {ns ns' : List Int} (h : ns'.Perm ns) (hs : ns'.Pairwise (· ≤ ·)) : sortI ns = ns' :=
  ((sortI_perm ns).trans h.symm).eq_of_pairwise (fun a b _ _ h1 h2 => Int.le_antisymm h1 h2) (sortI_sorted ns) hs
theorem prs_mem {ps : List Nat} {q : Int × Int} (h : q ∈ prs ps) : ∃ i r : Nat, ps[i]? = some r ∧ q = ((r : Int), (i : Int)) := by
  unfold prs at h
  obtain ⟨⟨r, i⟩, h1, rfl⟩ := List.mem_map.mp h
  exact ⟨i, r, List.mem_zipIdx_iff_getElem?.mp h1, rfl⟩
theorem prs_fst (ps : List Nat) : (prs ps).map (·.1) = ps.map fun (k : Nat) => (k : Int) := by
  unfold prs
  rw [List.map_map]
  refine List.ext_getElem (by simp) fun i h1 h2 => ?_
  simp
theorem prs_snd (ps : List Nat) : (prs ps).map (·.2) = (List.range ps.length).map fun (k : Nat) => (k : Int) := by
  unfold prs
  rw [List.map_map]
  refine List.ext_getElem (by simp) fun i h1 h2 => ?_
  simp
theorem range_sorted (k : Nat) : ((List.range k).map fun (k : Nat) => (k : Int)).Pairwise (· ≤ ·) := by
  rw [List.pairwise_map]
  exact List.pairwise_lt_range.imp fun {a b} h => by omega
theorem told_lt {ps : List Nat} (h : ps.Nodup) : ((sortP (prs ps)).map (·.1)).Pairwise (· < ·) := by
  rw [List.pairwise_map]
  have h1 := sortP_le (prs ps)
  have h2 : ((sortP (prs ps)).map (·.1)).Nodup := by
    have hp := ((sortP_perm (prs ps)).map (·.1)).symm
    rw [prs_fst] at hp
    refine hp.nodup ?_
    rw [List.Nodup, List.pairwise_map]
    exact List.Pairwise.imp (fun {a b} h => by omega) h
  rw [List.Nodup, List.pairwise_map] at h2
  exact (h1.and h2).imp fun {a b} h => by omega
theorem ne_bb {a b : Bool} : cmpop .ne (.bl a) (.bl b) M = .ok (.bl (!(a == b))) M := by
  rw [ne_dd rfl rfl]; rfl
theorem okd_il' {k : Nat} {l : List Int} : okd (k + 1) (.lst (il l)) = true := by rw [okd]; exact okd_il
theorem isTy_p {k : Nat} {xs : List D} (h : M[k]? = some (.lst xs)) : isTy M .list (.ptr k) = some true := by
  simp only [isTy, h]
theorem intsOf_il (l : List Int) : intsOf (il l) = some l := intsOf_map l
theorem row_turn {lot : List Pc} {course : List Lt} {ps : List Nat} {q : Int × Int} {a b c d e f : Option D} (sd : Sdr (opts lot course) ps) (hq : q ∈ prs ps) :
    foT P W (callF P W n) (.n 6) b26_1 (pairD q) [some (.lst (pl lot)), some (.lst (lt course)), some (.lst (od (opts lot course))), a, b, c, d, e, f] M = some (.nx [some (.lst (pl lot)), some (.lst (lt course)), some (.lst (od (opts lot course))), a, b, c, some (pairD q), e, f], M) := by
  obtain ⟨i, r, hi, rfl⟩ := prs_mem hq
  have hlt : i < (opts lot course).length := by rw [← sd.len]; exact (List.getElem?_eq_some_iff.mp hi).1
  have hg : L2.atI (od (opts lot course)) (i : Int) = some (.lst (nl (opts lot course)[i])) := atI_nat (by simp [hlt])
  have hm := sd.mem i r (opts lot course)[i] hi (by simp [hlt])
  have e1 := nin_il (M := M) (X := .lst (nl (opts lot course)[i])) (l := ((opts lot course)[i]).map fun (k : Nat) => (k : Int)) (s := (r : Int)) (by rw [← seq_nl]; rfl)
  have e2 : decide ((r : Int) ∈ ((opts lot course)[i]).map fun (k : Nat) => (k : Int)) = true := by
    simp only [decide_eq_true_eq, List.mem_map]
    exact ⟨r, hm, rfl⟩
  rw [e2] at e1
  simp [foT_app, b26_1, pairD, at0, at1, hg, e1]
end
end K30

/-! X30 -/
set_option maxRecDepth 100000
set_option maxHeartbeats 4000000
namespace K30
open G
variable {W : Nat}
section
variable {M : Store} {n : Nat}
theorem right_turn {lot : List Pc} {course : List Lt} {i : Int} {G : Store} {r4 r5 r6 r7 r8 : Option D} (he : hindE lot course = none) (hl : lot.length ≤ 1000) (hc : course.length ≤ 1000) (hx : ∀ p ∈ lot, p.x.length ≤ 100000) (hn : lot.length < n + 2) (hW : 100000 < W) :
    ∃ G' r5' r6' r7' r8', foT P W (callF P W (n + 5)) (.n 4) b26_2 (.int i) [some (.lst (pl lot)), some (.lst (lt course)), some (.lst (od (opts lot course))), some (.lst (lt course)), r4, r5, r6, r7, r8] (M ++ G) =
      some (.nx [some (.lst (pl lot)), some (.lst (lt course)), some (.lst (od (opts lot course))), some (.lst (lt course)), some (.int i), r5', r6', r7', r8'], M ++ G') := by
  have h := told_ok (W := W) (M := M ++ G) (n := n) he (by omega) (by omega) hx hn hW
  have hol : (opts lot course).length = lot.length := by simp [opts]
  have hne : ∀ N : Store, cmpop .ne (.lst (lt course)) (.lst (lt course)) N = .ok (.bl false) N := fun N => ne_same (d := .lst (lt course)) okd_lts
  have hdl : ∀ N : Store, callF P W (n + 5) 24 [.lst (od (opts lot course)), .lst []] N = .ok (.bl (dl (opts lot course) [])) N := fun N => by
    have := law_dealt (W := W) (M := N) (n + 5) (opts lot course) [] (by omega) (by simp) (by simp; omega)
    simpa using this
  have hd : dl (opts lot course) [] = true ↔ Dealt (opts lot course) := by
    rw [dl_iff]
    exact ⟨fun ⟨ps, h, _⟩ => ⟨ps, h⟩, fun ⟨ps, h⟩ => ⟨ps, h, fun q _ hq => by cases hq⟩⟩
  rcases h with ⟨h, nd⟩ | ⟨ps, R, h, sd⟩
  · have hf : dl (opts lot course) [] = false := by
      cases e : dl (opts lot course) [] with
      | false => rfl
      | true => exact absurd (hd.mp e) nd
    refine ⟨G, some .non, r6, r7, r8, ?_⟩
    simp [foT_app, b26_2, h, hne, hdl, hf, ne_bb]
  · have ht : dl (opts lot course) [] = true := hd.mpr ⟨ps, sd⟩
    have hpl : ps.length = lot.length := by rw [sd.len, hol]
    have hQl : (sortP (prs ps)).length = lot.length := by rw [(sortP_perm _).length_eq]; simp [prs, hpl]
    generalize hN : M ++ (G ++ R) = N
    have hlen : M.length + (G.length + R.length) = N.length := by rw [← hN]; simp
    have h' : callF P W (n + 5) 25 [.lst (pl lot), .lst (lt course)] (M ++ G) = .ok (.ptr N.length) (N ++ [.lst ((sortP (prs ps)).map pairD)]) := by
      rw [h, ← hlen, ← hN]; simp [Nat.add_assoc]
    have s0 : (N ++ [Ob.lst ((sortP (prs ps)).map pairD)])[N.length]? = some (.lst ((sortP (prs ps)).map pairD)) := by simp
    have hw : Walks (N ++ [Ob.lst ((sortP (prs ps)).map pairD)]) (.hot N.length) ((sortP (prs ps)).map pairD) := .inr ⟨_, rfl, s0⟩
    have hwk := walk_ptr s0
    have hsnd := lcW_map (k := fun q : Int × Int => D.int q.2) (W := W) (f := lcT P W (callF P W (n + 5)) [some (.lst (pl lot)), some (.lst (lt course)), some (.lst (od (opts lot course))), some (.lst (lt course)), some (.int i), some (.ptr N.length), r6, r7, r8] (.n 6) .nil (.ix (.v 6) (.int 1))) hw (fun q _ => by simp [lcT_app, pairD, at1, gslots, wipeR]) (by simp [big, PySem.sizeLine]; omega) (by omega)
    have e1 : ((sortP (prs ps)).map fun q : Int × Int => D.int q.2) = il ((sortP (prs ps)).map (·.2)) := by simp [il]
    rw [e1] at hsnd
    have e2 : sortI ((sortP (prs ps)).map (·.2)) = (List.range lot.length).map fun (k : Nat) => (k : Int) := by
      refine sortI_is ?_ (range_sorted _)
      have := (sortP_perm (prs ps)).map (·.2)
      rw [prs_snd, hpl] at this
      exact this.symm
    have e3 : ((List.range lot.length).map fun (k : Nat) => D.int (k : Int)) = il ((List.range lot.length).map fun (k : Nat) => (k : Int)) := by simp [il]
    have hne2 : ∀ N : Store, cmpop .ne (.lst (il ((List.range lot.length).map fun (k : Nat) => (k : Int)))) (.lst (il ((List.range lot.length).map fun (k : Nat) => (k : Int)))) N = .ok (.bl false) N := fun N => ne_same (d := .lst (il ((List.range lot.length).map fun (k : Nat) => (k : Int)))) okd_il'
    have hrow : ∃ r6', forH N.length (foT P W (callF P W (n + 5)) (.n 6) b26_1) W 0 [some (.lst (pl lot)), some (.lst (lt course)), some (.lst (od (opts lot course))), some (.lst (lt course)), some (.int i), some (.ptr N.length), r6, r7, r8] (N ++ [Ob.lst ((sortP (prs ps)).map pairD)]) = some (.nx [some (.lst (pl lot)), some (.lst (lt course)), some (.lst (od (opts lot course))), some (.lst (lt course)), some (.int i), some (.ptr N.length), r6', r7, r8], N ++ [Ob.lst ((sortP (prs ps)).map pairD)]) := by
      have key := forH_inv (l := sortP (prs ps)) (g := pairD) (f := foT P W (callF P W (n + 5)) (.n 6) b26_1) (j := N.length) (W := W) (fun _ ρ M' => M' = N ++ [Ob.lst ((sortP (prs ps)).map pairD)] ∧ ∃ r6', ρ = [some (.lst (pl lot)), some (.lst (lt course)), some (.lst (od (opts lot course))), some (.lst (lt course)), some (.int i), some (.ptr N.length), r6', r7, r8]) (ρ := [some (.lst (pl lot)), some (.lst (lt course)), some (.lst (od (opts lot course))), some (.lst (lt course)), some (.int i), some (.ptr N.length), r6, r7, r8]) (M := N ++ [Ob.lst ((sortP (prs ps)).map pairD)]) (fun _ _ _ h => by rw [h.1]; exact s0) (by omega) ⟨rfl, _, rfl⟩ ?_
      · obtain ⟨ρ', M', e, rfl, r6', rfl⟩ := key
        exact ⟨_, e⟩
      · rintro j q ρ M' hj ⟨rfl, r6', rfl⟩
        have hq : q ∈ prs ps := (sortP_perm _).mem_iff.mp (List.mem_of_getElem? hj)
        exact ⟨_, _, row_turn sd hq, rfl, _, rfl⟩
    obtain ⟨r6', hrow⟩ := hrow
    have hfst := lcW_map (k := fun q : Int × Int => D.int q.1) (W := W) (f := lcT P W (callF P W (n + 5)) [some (.lst (pl lot)), some (.lst (lt course)), some (.lst (od (opts lot course))), some (.lst (lt course)), some (.int i), some (.ptr N.length), r6', r7, r8] (.n 6) .nil (.ix (.v 6) (.int 0))) hw (fun q _ => by simp [lcT_app, pairD, at0, gslots, wipeR]) (by simp [big, PySem.sizeLine]; omega) (by omega)
    have e4 : ((sortP (prs ps)).map fun q : Int × Int => D.int q.1) = il ((sortP (prs ps)).map (·.1)) := by simp [il]
    rw [e4] at hfst
    have hlt := told_lt sd.nd
    have e5 : sortI ((sortP (prs ps)).map (·.1)) = (sortP (prs ps)).map (·.1) := sortI_is (.refl _) (hlt.imp fun h => by omega)
    generalize hpf : (sortP (prs ps)).map (·.1) = pf at *
    have hpfl : pf.length = lot.length := by rw [← hpf]; simpa using hQl
    have hne3 : ∀ N : Store, cmpop .ne (.lst (il pf)) (.lst (il pf)) N = .ok (.bl false) N := fun N => ne_same (d := .lst (il pf)) okd_il'
    generalize hsn : (sortP (prs ps)).map (·.2) = sn at *
    generalize hrl : ((List.range lot.length).map fun (k : Nat) => (k : Int)) = rl at *
    have hs1 : ∀ N : Store, birun (.sorted false) [.lst (il sn)] N = .ok (.lst (il rl)) N := fun N => by
      show srtD false (intsOf (il sn)) _ N = _
      rw [intsOf_il, srtD_i, e2]; rfl
    have hs2 : ∀ N : Store, birun (.sorted false) [.lst (il pf)] N = .ok (.lst (il pf)) N := fun N => by
      show srtD false (intsOf (il pf)) _ N = _
      rw [intsOf_il, srtD_i, e5]; rfl
    have hrg := rng_nat (M := N ++ [Ob.lst ((sortP (prs ps)).map pairD)]) (a := 1) (b := pf.length) (by omega) (by omega)
    simp only [Int.natCast_one, Int.natCast_add] at hrg
    have hcf := lcA_filter (l := List.range (pf.length - 1)) (acc := []) (f := lcT P W (callF P W (n + 5)) [some (.lst (pl lot)), some (.lst (lt course)), some (.lst (od (opts lot course))), some (.lst (lt course)), some (.int i), some (.ptr N.length), r6', some (.lst (il pf)), r8] (.n 8) (.cons (.cmp .eq (.ix (.v 7) (.bin .sub (.v 8) (.int 1))) (.ix (.v 7) (.v 8))) .nil) (.v 8)) (g := fun (k : Nat) => D.int (1 + (k : Int))) (k := fun (k : Nat) => D.int (1 + (k : Int))) (p := fun _ => false) (M := N ++ [Ob.lst ((sortP (prs ps)).map pairD)]) (fun k hk => by
      have hk := range_mem hk
      have g1 : pf[k]? = some (pf[k]'(by omega)) := by simp
      have g2 : pf[1 + k]? = some (pf[1 + k]'(by omega)) := by simp
      have a1 := il_get g1
      have a2 := il_get g2
      simp only [Int.natCast_add, Int.natCast_one] at a2
      have e1 : (1 + (k : Int)) - 1 = k := by omega
      have hlt2 := List.pairwise_iff_getElem.mp hlt k (1 + k) (by omega) (by omega) (by omega)
      have hb : (pf[k]'(by omega) == pf[1 + k]'(by omega)) = false := by rw [beq_eq_false_iff_ne]; omega
      simp [lcT_app, gslots, wipeR, e1, a1, a2, hb, Res.noerr]) (by simp [big, PySem.sizeLine]; omega)
    have hff : (List.range (pf.length - 1)).filter (fun _ => false) = [] := by simp
    rw [hff, List.map_nil, List.append_nil] at hcf
    refine ⟨G ++ R ++ [.lst ((sortP (prs ps)).map pairD ++ [pairD (0, 0)])], some (.ptr N.length), r6', some (.lst (il pf)), r8, ?_⟩
    simp [foT_app, b26_2, h', hne, hdl, ht, ne_bb, isTy_p, s0, hQl]
    simp only [hwk, onO_some, zbind_ok, hsnd, newL_f, rA_nil, hs1]
    simp [lrgI_nat (show lot.length ≤ 16777216 by omega), e3, hne2]
    simp only [hwk, onO_some, zbind_ok, zwith_ok, zthen_nx, foW_hot, hrow]
    simp only [rSs_cons, rS_asg, rE_lc, rI_val, rE_v, List.getElem?_cons_succ, List.getElem?_cons_zero, onV_some, zbind_ok, hwk, onO_some, hfst, newL_f, zwith_ok, zthen_nx, List.set_cons_succ, List.set_cons_zero]
    have lenPf : ∀ N : Store, birun .len [.lst (il pf)] N = .ok (.int pf.length) N := fun N => by simp
    simp only [rS_ite, rT_or, rTo_2, rTo_1, rT_cmp, rE_v, rE_bi, rE_lc, rA_cons, rA_nil, rI_rng2, rE_int, List.getElem?_cons_succ, List.getElem?_cons_zero, onV_some, zbind_ok, hs2, hne3, onB_bl, lenPf, hrg, lcW_items, hcf, newL_f, Bool.false_eq_true, if_false]
    have hbig : ((sortP (prs ps)).map pairD).length < big := by simp [hQl, big, PySem.sizeLine]; omega
    simp
    simp at hbig
    rw [if_pos hbig]
    simp [← hN, pairD]
theorem law_right {lot : List Pc} {course : List Lt} (he : hindE lot course = none) (hl : lot.length ≤ 1000) (hc : course.length ≤ 1000) (hx : ∀ p ∈ lot, p.x.length ≤ 100000) (hn : lot.length < n + 2) (hW : 100000 < W) :
    callF P W (n + 6) 26 [.lst (pl lot), .lst (lt course)] M = .ok (.bl true) M := by
  rw [callF_eq (k := f26) rfl rfl]
  have hle : letE course = none := by
    unfold hindE at he
    cases h1 : dropE lot course with
    | some e => rw [h1] at he; cases he
    | none =>
      cases h2 : pieceE lot with
      | some e => rw [h1, h2] at he; cases he
      | none => rw [h1, h2] at he; exact he
  have hab : callF P W (n + 5) 23 [.lst (pl lot), .lst (lt course)] M = .ok (.lst (od (opts lot course))) M := law_able (n := n + 4) lot course (by omega) (by omega) (letE_ok hle)
  obtain ⟨G1, a5, a6, a7, a8, t1⟩ := right_turn (W := W) (M := M) (n := n) (i := 0) (G := []) (r4 := none) (r5 := none) (r6 := none) (r7 := none) (r8 := none) he hl hc hx hn hW
  obtain ⟨G2, b5, b6, b7, b8, t2⟩ := right_turn (W := W) (M := M) (n := n) (i := 1) (G := G1) (r4 := some (.int 0)) (r5 := a5) (r6 := a6) (r7 := a7) (r8 := a8) he hl hc hx hn hW
  have hr : rngI 2 M = .ok (.items [.int 0, .int 1]) M := rfl
  simp only [List.append_nil] at t1
  have hfo : forL (foT P W (callF P W (n + 5)) (.n 4) b26_2) [.int 0, .int 1] [some (.lst (pl lot)), some (.lst (lt course)), some (.lst (od (opts lot course))), some (.lst (lt course)), none, none, none, none, none] M = some (.nx [some (.lst (pl lot)), some (.lst (lt course)), some (.lst (od (opts lot course))), some (.lst (lt course)), some (.int 1), b5, b6, b7, b8], M ++ G2) := by
    rw [forL, t1, turn_nx, forL, t2, turn_nx]; rfl
  simp [f26, b26, hab, hr, hfo]
  exact finish_rt_cut rfl rfl
end
end K30

/-! Y30 -/
set_option maxRecDepth 100000
set_option maxHeartbeats 4000000
namespace K30
open G
variable {W : Nat}
section
variable {M : Store} {n : Nat}
def fits (a b : Pc) : Bool := (a.x.all fun s => decide (s ∈ b.x)) && decide (a.d ≤ b.d)
def lack (a b : Pc) : List Int := a.x.filter fun s => !decide (s ∈ b.x)
theorem lack_nil {a b : Pc} : lack a b = [] ↔ (a.x.all fun s => decide (s ∈ b.x)) = true := by
  unfold lack
  rw [List.filter_eq_nil_iff, List.all_eq_true]
  simp
theorem fits_on (a b : Pc) : callF P W (n + 1) 7 [a.D, b.D] M = .ok (.bl (fits a b)) M := by
  rw [callF_eq (k := f7) rfl rfl]
  have key := forL_ret (l := a.x) (g := D.int) (f := foT P W (callF P W n) (.n 2) b7_1) (fun ρ M' => M' = M ∧ ∃ z, ρ = [some a.D, some b.D, z]) (fun s => if s ∈ b.x then none else some (.bl false)) (ρ := [some a.D, some b.D, none]) (M := M) ⟨rfl, _, rfl⟩ (fun _ _ h => h.1) ?_
  · simp [f7, b7, pc_D, at0, at1]
    simp only [pc_D] at key
    unfold fits
    cases hb : a.x.findSome? (fun s => if s ∈ b.x then none else some (D.bl false)) with
    | none =>
      rw [hb] at key
      obtain ⟨ρ', e, _, z, rfl⟩ := key
      have hall : (a.x.all fun s => decide (s ∈ b.x)) = true := by
        rw [List.all_eq_true]
        intro s hs
        have := List.findSome?_eq_none_iff.mp hb s hs
        by_cases h : s ∈ b.x
        · simpa using h
        · rw [if_neg h] at this; cases this
      rw [hall]
      simp [e, at1]
    | some d =>
      rw [hb] at key
      obtain ⟨s, hs, e⟩ := List.exists_of_findSome?_eq_some hb
      by_cases h : s ∈ b.x
      · rw [if_pos h] at e; cases e
      · rw [if_neg h] at e; cases e
        have hall : (a.x.all fun s => decide (s ∈ b.x)) = false := by
          rw [List.all_eq_false]
          exact ⟨s, hs, by simpa using h⟩
        rw [hall]
        simp [key]
  · rintro s hs ρ ⟨_, z, rfl⟩
    have e := nin_il (M := M) (X := .tup (il b.x)) (l := b.x) (s := s) rfl
    by_cases h : s ∈ b.x
    · simp [foT_app, b7_1, pc_D, at0, e, h]
    · simp [foT_app, b7_1, pc_D, at0, e, h]
theorem lacking_skill (a b : Pc) : callF P W (n + 1) 10 [a.D, b.D] M = .ok (match lack a b with | [] => .non | s :: _ => .int s) M := by
  rw [callF_eq (k := f10) rfl rfl]
  have key := forL_ret (l := a.x) (g := D.int) (f := foT P W (callF P W n) (.n 2) b10_1) (fun ρ M' => M' = M ∧ ∃ z, ρ = [some a.D, some b.D, z]) (fun s => if s ∈ b.x then none else some (.int s)) (ρ := [some a.D, some b.D, none]) (M := M) ⟨rfl, _, rfl⟩ (fun _ _ h => h.1) ?_
  · simp [f10, b10, pc_D, at0, at1]
    simp only [pc_D] at key
    have hh : a.x.findSome? (fun s => if s ∈ b.x then none else some (D.int s)) = match lack a b with | [] => none | s :: _ => some (.int s) := by
      unfold lack
      generalize a.x = l
      clear key
      induction l with
      | nil => rfl
      | cons s l ih =>
        by_cases h : s ∈ b.x
        · rw [List.findSome?_cons, if_pos h, List.filter_cons]
          simp [h, ih]
        · rw [List.findSome?_cons, if_neg h, List.filter_cons]
          simp [h]
    rw [hh] at key
    cases hl : lack a b with
    | nil =>
      rw [hl] at key
      obtain ⟨ρ', e, _, z, rfl⟩ := key
      simp [e]
    | cons s l =>
      rw [hl] at key
      simp at key
      simp [key]
  · rintro s hs ρ ⟨_, z, rfl⟩
    have e := nin_il (M := M) (X := .tup (il b.x)) (l := b.x) (s := s) rfl
    by_cases h : s ∈ b.x
    · simp [foT_app, b10_1, pc_D, at0, e, h]
    · simp [foT_app, b10_1, pc_D, at0, e, h]
theorem eqd_il_nilL {l : List Int} : eqd (.lst (il l)) (.lst []) = decide (l = []) := by
  cases l <;> simp [eqd, eqds]
theorem ne_nilL {l : List Int} : cmpop .ne (.lst (il l)) (.lst []) M = .ok (.bl (!decide (l = []))) M := by
  rw [ne_dd (x := .lst (il l)) okd_il' rfl]
  exact congrArg (fun b => Res.ok (D.bl (!b)) M) eqd_il_nilL
theorem law_fits (a b : Pc) (hx : a.x.length ≤ 100000) : callF P W (n + 1) 19 [a.D, b.D] M = .ok (.bl (fits a b)) M := by
  rw [callF_eq (k := f19) rfl rfl]
  have hc := lcA_filter (l := a.x) (acc := []) (f := lcT P W (callF P W n) [some a.D, some b.D, none] (.n 2) (.cons (.cmp .nin (.v 2) (.ix (.v 1) (.int 0))) .nil) (.v 2)) (g := D.int) (k := D.int) (p := fun s => !decide (s ∈ b.x)) (M := M) (fun s hs => by
    have e := nin_il (M := M) (X := .tup (il b.x)) (l := b.x) (s := s) rfl
    by_cases h : s ∈ b.x
    · simp [lcT_app, gslots, wipeR, pc_D, at0, e, h, Res.noerr]
    · simp [lcT_app, gslots, wipeR, pc_D, at0, e, h, Res.noerr]) (by simp [big, PySem.sizeLine]; omega)
  simp only [List.nil_append] at hc
  have hc2 : lcA (lcT P W (callF P W n) [some a.D, some b.D, none] (.n 2) (.cons (.cmp .nin (.v 2) (.ix (.v 1) (.int 0))) .nil) (.v 2)) (il a.x) [] M = .ok (il (lack a b)) M := hc
  have hne := ne_nilL (M := M) (l := lack a b)
  simp only [pc_D] at hc2
  simp [f19, b19, pc_D, at0, at1, hc2, hne]
  unfold fits
  by_cases h : lack a b = []
  · rw [lack_nil.mp h]
    simp [h, at1]
  · have hall : (a.x.all fun s => decide (s ∈ b.x)) = false := by
      cases e : a.x.all fun s => decide (s ∈ b.x) with
      | false => rfl
      | true => exact absurd (lack_nil.mpr e) h
    rw [hall]
    simp [h]
theorem in_no_order (a b : Pc) : callF P W (n + 2) 12 [a.D, b.D] M = .ok (.bl (!fits a b && !fits b a)) M := by
  rw [callF_eq (k := f12) rfl rfl]
  simp [f12, b12, fits_on]
  cases fits a b <;> simp
def oneC (h : Int) (a b : Pc) : List Lt := match lack a b with
  | s :: _ => [.h h, .h s]
  | [] => [.h h] ++ List.replicate b.d.toNat .b ++ [.h (hd0 a.x)]
theorem hd0_at {l : List Int} (h : l ≠ []) : L2.atI (il l) 0 = some (.int (hd0 l)) := by
  cases l with
  | nil => exact absurd rfl h
  | cons a r => exact at0
theorem one_course (h : Int) (a b : Pc) (hx : a.x.length ≤ 100000) (ha : a.x ≠ []) (hd : 1 ≤ b.d ∧ b.d ≤ 100000) : callF P W (n + 1) 28 [.int h, a.D, b.D] M = .ok (.lst (lt (oneC h a b))) M := by
  rw [callF_eq (k := f28) rfl rfl]
  have hc := lcA_filter (l := a.x) (acc := []) (f := lcT P W (callF P W n) [some (.int h), some a.D, some b.D, none, none] (.n 4) (.cons (.cmp .nin (.v 4) (.ix (.v 2) (.int 0))) .nil) (.v 4)) (g := D.int) (k := D.int) (p := fun s => !decide (s ∈ b.x)) (M := M) (fun s hs => by
    have e := nin_il (M := M) (X := .tup (il b.x)) (l := b.x) (s := s) rfl
    by_cases h : s ∈ b.x
    · simp [lcT_app, gslots, wipeR, pc_D, at0, e, h, Res.noerr]
    · simp [lcT_app, gslots, wipeR, pc_D, at0, e, h, Res.noerr]) (by simp [big, PySem.sizeLine]; omega)
  simp only [List.nil_append] at hc
  have hc2 : lcA (lcT P W (callF P W n) [some (.int h), some a.D, some b.D, none, none] (.n 4) (.cons (.cmp .nin (.v 4) (.ix (.v 2) (.int 0))) .nil) (.v 4)) (il a.x) [] M = .ok (il (lack a b)) M := hc
  have hne := ne_nilL (M := M) (l := lack a b)
  simp only [pc_D] at hc2
  simp [f28, b28, pc_D, at0, at1, hc2, hne]
  unfold oneC
  cases hl : lack a b with
  | cons s l =>
    simp [at0, Lt.D]
  | nil =>
    have hm : binop .mul (.lst [.tup [.str "bell"]]) (.int b.d) M = .ok (.lst (List.replicate b.d.toNat (.tup [.str "bell"]))) M := by
      rw [mul_li (by simp [big, PySem.sizeLine]; omega)]
      congr 2
      induction b.d.toNat with
      | zero => rfl
      | succ k ih => rw [List.replicate_succ, List.replicate_succ, List.flatten_cons, ih]; rfl
    have ha1 : binop .add (.lst [.tup [.str "hand", .int h]]) (.lst (List.replicate b.d.toNat (.tup [.str "bell"]))) M = .ok (.lst ([.tup [.str "hand", .int h]] ++ List.replicate b.d.toNat (.tup [.str "bell"]))) M := add_ll (by simp [big, PySem.sizeLine]; omega)
    have ha2 : binop .add (.lst ([.tup [.str "hand", .int h]] ++ List.replicate b.d.toNat (.tup [.str "bell"]))) (.lst [.tup [.str "hand", .int (hd0 a.x)]]) M = .ok (.lst ([.tup [.str "hand", .int h]] ++ List.replicate b.d.toNat (.tup [.str "bell"]) ++ [.tup [.str "hand", .int (hd0 a.x)]])) M := add_ll (by simp [big, PySem.sizeLine]; omega)
    have hh := hd0_at ha
    simp only [List.cons_append, List.nil_append] at ha1 ha2
    simp [at0, at1, hm, ha1, hh, ha2, Lt.D]
theorem ending_course (h : Int) (a b : Pc) (ha : a.x ≠ []) (hd : 1 ≤ b.d ∧ b.d ≤ 1000) : callF P W (n + 2) 14 [.int h, a.D, b.D] M = .ok (.lst (lt (oneC h a b))) M := by
  rw [callF_eq (k := f14) rfl rfl]
  have hs : callF P W (n + 1) 10 [.tup [.tup (il a.x), .int a.d], .tup [.tup (il b.x), .int b.d]] (M ++ [.lst [.tup [.str "hand", .int h]]]) = .ok (match lack a b with | [] => .non | s :: _ => .int s) (M ++ [.lst [.tup [.str "hand", .int h]]]) := lacking_skill a b
  simp [f14, b14, pc_D, hs]
  unfold oneC
  cases hl : lack a b with
  | cons s l =>
    have hadd : binop .add (.ptr M.length) (.lst [.tup [.str "hand", .int s]]) (M ++ [.lst [.tup [.str "hand", .int h]]]) = .ok (.lst [.tup [.str "hand", .int h], .tup [.str "hand", .int s]]) (M ++ [.lst [.tup [.str "hand", .int h]]]) := by
      simp [binop, big, PySem.sizeLine]
    simp [hadd, Lt.D]
    exact finish_rt_cut rfl (by simp [underD, underDs])
  | nil =>
    obtain ⟨k, hk⟩ := Int.eq_ofNat_of_zero_le (show 0 ≤ b.d by omega)
    have hkt : b.d.toNat = k := by omega
    have key := forL_inv (l := List.range k) (g := fun (i : Nat) => D.int (i : Int)) (f := foT P W (callF P W (n + 1)) (.n 5) b14_1) (fun i ρ M' => M' = M ++ [.lst (D.tup [.str "hand", .int h] :: List.replicate i (.tup [.str "bell"]))] ∧ ∃ z, ρ = [some (.int h), some (.tup [.tup (il a.x), .int a.d]), some (.tup [.tup (il b.x), .int b.d]), some (.ptr M.length), some .non, z]) (ρ := [some (.int h), some (.tup [.tup (il a.x), .int a.d]), some (.tup [.tup (il b.x), .int b.d]), some (.ptr M.length), some .non, none]) (M := M ++ [.lst [.tup [.str "hand", .int h]]]) ⟨rfl, _, rfl⟩ ?_
    · obtain ⟨ρ', M', e, rfl, z, rfl⟩ := key
      simp only [List.length_range] at e
      have hh := hd0_at ha
      have hr := rngI_nat (M := M ++ [.lst [.tup [.str "hand", .int h]]]) (show k ≤ 16777216 by omega)
      rw [← hk] at hr
      have hadd : binop .add (.ptr M.length) (.lst [.tup [.str "hand", .int (hd0 a.x)]]) (M ++ [.lst (D.tup [.str "hand", .int h] :: List.replicate k (.tup [.str "bell"]))]) = .ok (.lst ((D.tup [.str "hand", .int h] :: List.replicate k (.tup [.str "bell"])) ++ [.tup [.str "hand", .int (hd0 a.x)]])) (M ++ [.lst (D.tup [.str "hand", .int h] :: List.replicate k (.tup [.str "bell"]))]) := by
        have hb : k + 1 + 1 ≤ big := by simp [big, PySem.sizeLine]; omega
        simp [binop, hb]
      simp [at0, at1, hr, e, hh, hadd, Lt.D, hkt]
      refine finish_rt_cut rfl ?_
      simp only [underD, underDs_iff]
      intro x hx
      simp at hx
      rcases hx with rfl | ⟨_, rfl⟩ | rfl <;> simp [underD, underDs]
    · rintro i _ ρ M' hi ⟨rfl, z, rfl⟩
      have hi := (range_get hi).1
      have hb : i + 1 < big := by simp [big, PySem.sizeLine]; omega
      refine ⟨_, _, by simp [foT_app, b14_1, hb]; exact ⟨rfl, rfl⟩, by simp [List.replicate_succ'], _, rfl⟩
def cond (lot : List Pc) (h : Int) (i j : Nat) : Bool := match lot[i]?, lot[j]? with
  | some a, some b => decide (h ∈ a.x) && decide (h ∈ b.x) && (!fits a b && !fits b a)
  | _, _ => false
def bad3 (lot : List Pc) (h i k : Nat) : Option D := if cond lot ((1 + h : Nat) : Int) i (i + 1 + k) = true then some (.tup [.int ((1 + h : Nat) : Int), .int (i : Int), .int ((i + 1 + k : Nat) : Int)]) else none
def bad2 (lot : List Pc) (h i : Nat) : Option D := (List.range (lot.length - (i + 1))).findSome? (bad3 lot h i)
def bad1 (lot : List Pc) (h : Nat) : Option D := (List.range lot.length).findSome? (bad2 lot h)
def faultO (lot : List Pc) : Option D := (List.range 8).findSome? (bad1 lot)
theorem rng_1_9 : rngIJ (.int 1) (.int 9) M = .ok (.items ((List.range 8).map fun (k : Nat) => D.int ((1 + k : Nat) : Int))) M := rng_nat (a := 1) (b := 9) (by omega) (by omega)
theorem law_fault (lot : List Pc) (hl : lot.length ≤ 1000) (hx : ∀ p ∈ lot, p.x.length ≤ 100000) : callF P W (n + 2) 27 [.lst (pl lot)] M = .ok ((faultO lot).getD .non) M := by
  rw [callF_eq (k := f27) rfl rfl]
  have k3 : ∀ h i ρ, h < 8 → i < lot.length → (∃ z, ρ = [some (.lst (pl lot)), some (.int ((1 + h : Nat) : Int)), some (.int (i : Int)), z]) → match bad2 lot h i with | none => ∃ ρ', forL (foT P W (callF P W (n + 1)) (.n 3) b27_1) ((List.range (lot.length - (i + 1))).map fun (k : Nat) => D.int ((i + 1 + k : Nat) : Int)) ρ M = some (.nx ρ', M) ∧ (M = M ∧ ∃ z, ρ' = [some (.lst (pl lot)), some (.int ((1 + h : Nat) : Int)), some (.int (i : Int)), z]) | some d => forL (foT P W (callF P W (n + 1)) (.n 3) b27_1) ((List.range (lot.length - (i + 1))).map fun (k : Nat) => D.int ((i + 1 + k : Nat) : Int)) ρ M = some (.rt d, M) := by
    intro h i ρ hh hi hρ
    refine forL_ret (fun ρ M' => M' = M ∧ ∃ z, ρ = [some (.lst (pl lot)), some (.int ((1 + h : Nat) : Int)), some (.int (i : Int)), z]) (bad3 lot h i) ⟨rfl, hρ⟩ (fun _ _ h => h.1) ?_
    rintro k hk ρ ⟨_, z, rfl⟩
    have hk := range_mem hk
    have g1 : lot[i]? = some lot[i] := by simp [hi]
    have g2 : lot[i + 1 + k]? = some (lot[i + 1 + k]'(by omega)) := by simp
    have a1 : L2.atI (pl lot) (i : Int) = some lot[i].D := pl_get g1
    have a2 : L2.atI (pl lot) ((i + 1 + k : Nat) : Int) = some (lot[i + 1 + k]'(by omega)).D := pl_get g2
    have hx1 := hx _ (List.getElem_mem hi)
    have hx2 := hx _ (List.getElem_mem (show i + 1 + k < lot.length by omega))
    have hc : cond lot ((1 + h : Nat) : Int) i (i + 1 + k) = (decide (((1 + h : Nat) : Int) ∈ lot[i].x) && decide (((1 + h : Nat) : Int) ∈ (lot[i + 1 + k]'(by omega)).x) && (!fits lot[i] (lot[i + 1 + k]'(by omega)) && !fits (lot[i + 1 + k]'(by omega)) lot[i])) := by
      unfold cond; rw [g1, g2]
    unfold bad3
    rw [hc]
    generalize lot[i] = a at *
    generalize lot[i + 1 + k]'(by omega) = b at *
    generalize ((1 + h : Nat) : Int) = v at *
    generalize ((i + 1 + k : Nat) : Int) = w at *
    have e1 := inn_il (M := M) (X := .tup (il a.x)) (l := a.x) (s := v) rfl
    have e2 := inn_il (M := M) (X := .tup (il b.x)) (l := b.x) (s := v) rfl
    have f1 := law_fits (W := W) (M := M) (n := n) a b hx1
    have f2 := law_fits (W := W) (M := M) (n := n) b a hx2
    simp only [pc_D] at f1 f2 a1 a2
    by_cases h1 : v ∈ a.x
    · by_cases h2 : v ∈ b.x
      · cases h3 : fits a b
        · cases h4 : fits b a
          · rw [h3] at f1; rw [h4] at f2
            simp [foT_app, b27_1, a1, a2, at0, e1, e2, f1, f2, h1, h2]
          · rw [h3] at f1; rw [h4] at f2
            simp [foT_app, b27_1, a1, a2, at0, e1, e2, f1, f2, h1, h2]
        · rw [h3] at f1
          simp [foT_app, b27_1, a1, a2, at0, e1, e2, f1, h1, h2]
      · simp [foT_app, b27_1, a1, a2, at0, e1, e2, h1, h2]
    · simp [foT_app, b27_1, a1, a2, at0, e1, h1]
  simp only [Int.natCast_add, Int.natCast_one] at k3
  have k2 : ∀ h ρ, h < 8 → (∃ y z, ρ = [some (.lst (pl lot)), some (.int (1 + (h : Int))), y, z]) → match bad1 lot h with | none => ∃ ρ', forL (foT P W (callF P W (n + 1)) (.n 2) b27_2) ((List.range lot.length).map fun (k : Nat) => D.int (k : Int)) ρ M = some (.nx ρ', M) ∧ (M = M ∧ ∃ y z, ρ' = [some (.lst (pl lot)), some (.int (1 + (h : Int))), y, z]) | some d => forL (foT P W (callF P W (n + 1)) (.n 2) b27_2) ((List.range lot.length).map fun (k : Nat) => D.int (k : Int)) ρ M = some (.rt d, M) := by
    intro h ρ hh hρ
    refine forL_ret (fun ρ M' => M' = M ∧ ∃ y z, ρ = [some (.lst (pl lot)), some (.int (1 + (h : Int))), y, z]) (bad2 lot h) ⟨rfl, hρ⟩ (fun _ _ h => h.1) ?_
    rintro i hi ρ ⟨_, y, z, rfl⟩
    have hi := range_mem hi
    have := k3 h i _ hh hi ⟨z, rfl⟩
    have hr := rng_nat (M := M) (a := i + 1) (b := lot.length) (by omega) (by omega)
    simp only [Int.natCast_add, Int.natCast_one] at hr
    cases e : bad2 lot h i with
    | none =>
      rw [e] at this
      obtain ⟨ρ', e2, _, z', rfl⟩ := this
      exact ⟨_, by simp [foT_app, b27_2, hr, e2]; exact ⟨rfl, rfl⟩, rfl, _, _, rfl⟩
    | some d =>
      rw [e] at this
      simp only at this
      simp [foT_app, b27_2, hr, this]
  have k1 := forL_ret (l := List.range 8) (g := fun (k : Nat) => D.int ((1 + k : Nat) : Int)) (f := foT P W (callF P W (n + 1)) (.n 1) b27_3) (fun ρ M' => M' = M ∧ ∃ x y z, ρ = [some (.lst (pl lot)), x, y, z]) (bad1 lot) (ρ := [some (.lst (pl lot)), none, none, none]) (M := M) ⟨rfl, _, _, _, rfl⟩ (fun _ _ h => h.1) ?_
  · have h19 := rng_1_9 (M := M)
    have hf : faultO lot = (List.range 8).findSome? (bad1 lot) := rfl
    rw [← hf] at k1
    simp only [f27, b27, rSs_cons, rS_fo, rI_rng2, rE_int, zbind_ok, h19, zwith_ok, foW_items, List.map_cons, List.map_nil, List.length_cons, List.length_nil, Nat.reduceAdd, Nat.reduceSub, List.replicate, List.cons_append, List.nil_append]
    cases e : faultO lot with
    | none =>
      rw [e] at k1
      obtain ⟨ρ', e2, _, x, y, z, rfl⟩ := k1
      rw [e2]
      simp
    | some d =>
      rw [e] at k1
      simp only at k1
      rw [k1]
      simp
  · rintro h hh ρ ⟨_, x, y, z, rfl⟩
    have hh := range_mem hh
    have := k2 h _ hh ⟨y, z, rfl⟩
    cases e : bad1 lot h with
    | none =>
      rw [e] at this
      obtain ⟨ρ', e2, _, y', z', rfl⟩ := this
      exact ⟨_, by simp [foT_app, b27_3, rngI_nat (show lot.length ≤ 16777216 by omega), e2]; exact ⟨rfl, rfl, rfl⟩, rfl, _, _, _, rfl⟩
    | some d =>
      rw [e] at this
      simp only at this
      simp [foT_app, b27_3, rngI_nat (show lot.length ≤ 16777216 by omega), this]
theorem nested_fault (lot : List Pc) (hl : lot.length ≤ 1000) (hx : ∀ p ∈ lot, p.x.length ≤ 100000) (h1 : dropE lot [] = none) (h2 : pieceE lot = none) : callF P W (n + 4) 13 [.lst (pl lot)] M = .ok ((faultO lot).getD .non) M := by
  rw [callF_eq (k := f13) rfl rfl]
  have p2 : callF P W (n + 3) 2 [.lst (pl lot)] M = .ok (.lst (pl lot)) M := piece_rows (n := n + 2) lot (by omega)
  have p3 : callF P W (n + 3) 3 [.lst [.lst (pl lot)], .lst []] M = resE (dropE lot []) M := check_drops (n := n) lot [] (by omega) (by simp)
  have p4 : callF P W (n + 3) 4 [.lst [.lst (pl lot)]] M = resE (pieceE lot) M := check_pieces (n := n + 2) lot hx
  rw [h1] at p3
  rw [h2] at p4
  clear h1 h2
  have k3 : ∀ h i ρ, h < 8 → i < lot.length → (∃ z, ρ = [some (.lst (pl lot)), some (.lst (pl lot)), some (.int ((1 + h : Nat) : Int)), some (.int (i : Int)), z]) → match bad2 lot h i with | none => ∃ ρ', forL (foT P W (callF P W (n + 3)) (.n 4) b13_1) ((List.range (lot.length - (i + 1))).map fun (k : Nat) => D.int ((i + 1 + k : Nat) : Int)) ρ M = some (.nx ρ', M) ∧ (M = M ∧ ∃ z, ρ' = [some (.lst (pl lot)), some (.lst (pl lot)), some (.int ((1 + h : Nat) : Int)), some (.int (i : Int)), z]) | some d => forL (foT P W (callF P W (n + 3)) (.n 4) b13_1) ((List.range (lot.length - (i + 1))).map fun (k : Nat) => D.int ((i + 1 + k : Nat) : Int)) ρ M = some (.rt d, M) := by
    intro h i ρ hh hi hρ
    refine forL_ret (fun ρ M' => M' = M ∧ ∃ z, ρ = [some (.lst (pl lot)), some (.lst (pl lot)), some (.int ((1 + h : Nat) : Int)), some (.int (i : Int)), z]) (bad3 lot h i) ⟨rfl, hρ⟩ (fun _ _ h => h.1) ?_
    rintro k hk ρ ⟨_, z, rfl⟩
    have hk := range_mem hk
    have g1 : lot[i]? = some lot[i] := by simp [hi]
    have g2 : lot[i + 1 + k]? = some (lot[i + 1 + k]'(by omega)) := by simp
    have a1 : L2.atI (pl lot) (i : Int) = some lot[i].D := pl_get g1
    have a2 : L2.atI (pl lot) ((i + 1 + k : Nat) : Int) = some (lot[i + 1 + k]'(by omega)).D := pl_get g2
    have hx1 := hx _ (List.getElem_mem hi)
    have hx2 := hx _ (List.getElem_mem (show i + 1 + k < lot.length by omega))
    have hc : cond lot ((1 + h : Nat) : Int) i (i + 1 + k) = (decide (((1 + h : Nat) : Int) ∈ lot[i].x) && decide (((1 + h : Nat) : Int) ∈ (lot[i + 1 + k]'(by omega)).x) && (!fits lot[i] (lot[i + 1 + k]'(by omega)) && !fits (lot[i + 1 + k]'(by omega)) lot[i])) := by
      unfold cond; rw [g1, g2]
    unfold bad3
    rw [hc]
    generalize lot[i] = a at *
    generalize lot[i + 1 + k]'(by omega) = b at *
    generalize ((1 + h : Nat) : Int) = v at *
    generalize ((i + 1 + k : Nat) : Int) = w at *
    have e1 := inn_il (M := M) (X := .tup (il a.x)) (l := a.x) (s := v) rfl
    have e2 := inn_il (M := M) (X := .tup (il b.x)) (l := b.x) (s := v) rfl
    have f1 : callF P W (n + 3) 12 [a.D, b.D] M = .ok (.bl (!fits a b && !fits b a)) M := in_no_order (n := n + 1) a b
    simp only [pc_D] at f1 a1 a2
    by_cases h1 : v ∈ a.x
    · by_cases h2 : v ∈ b.x
      · cases h3 : (!fits a b && !fits b a)
        · rw [h3] at f1
          simp [foT_app, b13_1, a1, a2, at0, e1, e2, f1, h1, h2]
        · rw [h3] at f1
          simp [foT_app, b13_1, a1, a2, at0, e1, e2, f1, h1, h2]
      · simp [foT_app, b13_1, a1, a2, at0, e1, e2, h1, h2]
    · simp [foT_app, b13_1, a1, a2, at0, e1, h1]
  simp only [Int.natCast_add, Int.natCast_one] at k3
  have k2 : ∀ h ρ, h < 8 → (∃ y z, ρ = [some (.lst (pl lot)), some (.lst (pl lot)), some (.int (1 + (h : Int))), y, z]) → match bad1 lot h with | none => ∃ ρ', forL (foT P W (callF P W (n + 3)) (.n 3) b13_2) ((List.range lot.length).map fun (k : Nat) => D.int (k : Int)) ρ M = some (.nx ρ', M) ∧ (M = M ∧ ∃ y z, ρ' = [some (.lst (pl lot)), some (.lst (pl lot)), some (.int (1 + (h : Int))), y, z]) | some d => forL (foT P W (callF P W (n + 3)) (.n 3) b13_2) ((List.range lot.length).map fun (k : Nat) => D.int (k : Int)) ρ M = some (.rt d, M) := by
    intro h ρ hh hρ
    refine forL_ret (fun ρ M' => M' = M ∧ ∃ y z, ρ = [some (.lst (pl lot)), some (.lst (pl lot)), some (.int (1 + (h : Int))), y, z]) (bad2 lot h) ⟨rfl, hρ⟩ (fun _ _ h => h.1) ?_
    rintro i hi ρ ⟨_, y, z, rfl⟩
    have hi := range_mem hi
    have := k3 h i _ hh hi ⟨z, rfl⟩
    have hr := rng_nat (M := M) (a := i + 1) (b := lot.length) (by omega) (by omega)
    simp only [Int.natCast_add, Int.natCast_one] at hr
    cases e : bad2 lot h i with
    | none =>
      rw [e] at this
      obtain ⟨ρ', e2, _, z', rfl⟩ := this
      exact ⟨_, by simp [foT_app, b13_2, hr, e2]; exact ⟨rfl, rfl⟩, rfl, _, _, rfl⟩
    | some d =>
      rw [e] at this
      simp only at this
      simp [foT_app, b13_2, hr, this]
  have k1 := forL_ret (l := List.range 8) (g := fun (k : Nat) => D.int ((1 + k : Nat) : Int)) (f := foT P W (callF P W (n + 3)) (.n 2) b13_3) (fun ρ M' => M' = M ∧ ∃ x y z, ρ = [some (.lst (pl lot)), some (.lst (pl lot)), x, y, z]) (bad1 lot) (ρ := [some (.lst (pl lot)), some (.lst (pl lot)), none, none, none]) (M := M) ⟨rfl, _, _, _, rfl⟩ (fun _ _ h => h.1) ?_
  · have h19 := rng_1_9 (M := M)
    have hf : faultO lot = (List.range 8).findSome? (bad1 lot) := rfl
    rw [← hf] at k1
    simp [f13, b13, p2, p3, p4]
    simp only [h19, zbind_ok, zwith_ok, foW_items]
    cases e : faultO lot with
    | none =>
      rw [e] at k1
      obtain ⟨ρ', e2, _, x, y, z, rfl⟩ := k1
      rw [e2]
      simp
    | some d =>
      rw [e] at k1
      simp only at k1
      rw [k1]
      simp
  · rintro h hh ρ ⟨_, x, y, z, rfl⟩
    have hh := range_mem hh
    have := k2 h _ hh ⟨y, z, rfl⟩
    cases e : bad1 lot h with
    | none =>
      rw [e] at this
      obtain ⟨ρ', e2, _, y', z', rfl⟩ := this
      exact ⟨_, by simp [foT_app, b13_3, rngI_nat (show lot.length ≤ 16777216 by omega), e2]; exact ⟨rfl, rfl, rfl⟩, rfl, _, _, _, rfl⟩
    | some d =>
      rw [e] at this
      simp only at this
      simp [foT_app, b13_3, rngI_nat (show lot.length ≤ 16777216 by omega), this]
end
end K30

/-! Z30 -/
set_option maxRecDepth 100000
set_option maxHeartbeats 4000000
namespace K30
open G
variable {W : Nat}
section
variable {M : Store} {n : Nat}
@[simp] theorem rT_chn {P : Pg} {w : Nat} {cf : Nat → List D → Store → Res D} {ρ : Rho} {M : Store} {o p : Cop} {a b c : Xp} : runT P w cf ρ (.chn o p a b c) M = (runE P w cf ρ a M).zbind fun x M1 => (runE P w cf ρ b M1).zbind fun y M2 => (cmpop o x y M2).zbind fun z M3 => onB z fun k => if k = true then (runE P w cf ρ c M3).zbind fun u M4 => (cmpop p y u M4).zbind fun z M5 => onB z fun k => .ok k M5 else .ok false M3 := by
  show (runE P w cf ρ a M).bind _ = (runE P w cf ρ a M).bind _
  congr 1; funext x M1
  show (runE P w cf ρ b M1).bind _ = (runE P w cf ρ b M1).bind _
  congr 1; funext y M2
  show (cmpop o x y M2).bind _ = (cmpop o x y M2).bind _
  congr 1; funext z M3
  cases z with
  | bl k =>
    cases k with
    | false => rfl
    | true =>
      simp only [onB_bl, if_true]
      show (runE P w cf ρ c M3).bind _ = (runE P w cf ρ c M3).bind _
      first
        | rfl
        | (congr 1; funext u M4
           show (cmpop p y u M4).bind _ = (cmpop p y u M4).bind _
           first | rfl | (congr 1; funext z M5; cases z <;> rfl))
  | _ => rfl
def xAt (lot : List Pc) (i : Int) : List Int := match lot[i.toNat]? with | some a => a.x | none => []
def plE (lot : List Pc) (h i : Int) : Option Er1 := if 0 ≤ i ∧ i < lot.length ∧ h ∈ xAt lot i then none else some (1, [.int i])
theorem plE_none {lot : List Pc} {h i : Int} (e : plE lot h i = none) : ∃ a, lot[i.toNat]? = some a ∧ h ∈ a.x ∧ 0 ≤ i ∧ L2.atI (pl lot) i = some a.D := by
  unfold plE at e
  split at e
  · rename_i hh
    obtain ⟨h0, h1, h2⟩ := hh
    have hi : i.toNat < lot.length := by omega
    have hg : lot[i.toNat]? = some lot[i.toNat] := by simp [hi]
    unfold xAt at h2
    rw [hg] at h2
    refine ⟨_, hg, h2, h0, ?_⟩
    have := pl_get hg
    rwa [show ((i.toNat : Nat) : Int) = i by omega] at this
  · cases e
theorem pl_turn {lot : List Pc} {h i : Int} {a b c d : Option D} (hl : lot.length ≤ 1000) : Rai (fun ρ => ∃ e, ρ = [a, some (.int h), b, c, some (.lst (pl lot)), e]) M (plE lot h i) (foT P W (callF P W n) (.n 5) b15_1 (.int i) [a, some (.int h), b, c, some (.lst (pl lot)), d] M) := by
  by_cases h0 : 0 ≤ i
  · by_cases h1 : i < lot.length
    · have hi : i.toNat < lot.length := by omega
      have hg : lot[i.toNat]? = some lot[i.toNat] := by simp [hi]
      have ha := pl_get hg
      rw [show ((i.toNat : Nat) : Int) = i by omega] at ha
      have hxa : xAt lot i = lot[i.toNat].x := by unfold xAt; rw [hg]
      generalize lot[i.toNat] = p at *
      have e := nin_il (M := M) (X := .tup (il p.x)) (l := p.x) (s := h) rfl
      unfold plE
      rw [hxa]
      by_cases h2 : h ∈ p.x
      · simp [foT_app, b15_1, h0, h1, ha, at0, e, h2]
        exact ⟨_, rfl, _, rfl⟩
      · simp [foT_app, b15_1, h0, h1, ha, at0, e, h2, er1]
        exact ⟨_, rfl⟩
    · unfold plE
      simp [foT_app, b15_1, h0, h1, er1]
      exact ⟨_, rfl⟩
  · unfold plE
    simp [foT_app, b15_1, h0, er1]
    exact ⟨_, rfl⟩
theorem two_bad {lot : List Pc} {h i j : Int} {e : Er1} (hl : lot.length ≤ 1000) (hx : ∀ p ∈ lot, p.x.length ≤ 100000) (h1 : dropE lot [] = none) (h2 : pieceE lot = some e) : callF P W (n + 4) 15 [.lst (pl lot), .int h, .int i, .int j] M = .err e.1 e.2 M := by
  rw [callF_eq (k := f15) rfl rfl]
  have p2 : callF P W (n + 3) 2 [.lst (pl lot)] M = .ok (.lst (pl lot)) M := piece_rows (n := n + 2) lot (by omega)
  have p3 : callF P W (n + 3) 3 [.lst [.lst (pl lot)], .lst []] M = resE (dropE lot []) M := check_drops (n := n) lot [] (by omega) (by simp)
  have p4 : callF P W (n + 3) 4 [.lst [.lst (pl lot)]] M = resE (pieceE lot) M := check_pieces (n := n + 2) lot hx
  rw [h1] at p3
  rw [h2] at p4
  simp [f15, b15, p2, p3, p4]
def noOrd (lot : List Pc) (i j : Int) : Bool := match lot[i.toNat]?, lot[j.toNat]? with
  | some a, some b => !fits a b && !fits b a
  | _, _ => false
def twoE (lot : List Pc) (h i j : Int) : Option Er1 := (plE lot h i).or <| (plE lot h j).or (if noOrd lot i j = true then none else some (1, [.int j]))
theorem two_courses {lot : List Pc} {h i j : Int} (hl : lot.length ≤ 1000) (hx : ∀ p ∈ lot, p.x.length ≤ 100000) (h1 : dropE lot [] = none) (h2 : pieceE lot = none) (hv : ∀ p ∈ lot, p.x ≠ [] ∧ 1 ≤ p.d ∧ p.d ≤ 1000) :
    match twoE lot h i j with
    | some e => callF P W (n + 4) 15 [.lst (pl lot), .int h, .int i, .int j] M = .err e.1 e.2 M
    | none => ∃ a b, lot[i.toNat]? = some a ∧ lot[j.toNat]? = some b ∧ callF P W (n + 4) 15 [.lst (pl lot), .int h, .int i, .int j] M = .ok (.lst [.lst (lt (oneC h a b)), .lst (lt (oneC h b a))]) M := by
  rw [callF_eq (k := f15) rfl rfl]
  have p2 : callF P W (n + 3) 2 [.lst (pl lot)] M = .ok (.lst (pl lot)) M := piece_rows (n := n + 2) lot (by omega)
  have p3 : callF P W (n + 3) 3 [.lst [.lst (pl lot)], .lst []] M = resE (dropE lot []) M := check_drops (n := n) lot [] (by omega) (by simp)
  have p4 : callF P W (n + 3) 4 [.lst [.lst (pl lot)]] M = resE (pieceE lot) M := check_pieces (n := n + 2) lot hx
  rw [h1] at p3
  rw [h2] at p4
  simp [f15, b15, p2, p3, p4]
  have key := Rai.loop (l := [i, j]) (g := D.int) (f := foT P W (callF P W (n + 3)) (.n 5) b15_1) (M := M) (R := fun ρ => ∃ e, ρ = [some (.lst (pl lot)), some (.int h), some (.int i), some (.int j), some (.lst (pl lot)), e]) (bad := plE lot h) (ρ := [some (.lst (pl lot)), some (.int h), some (.int i), some (.int j), some (.lst (pl lot)), none]) ⟨_, rfl⟩ (fun x _ ρ hr => by
    obtain ⟨e, rfl⟩ := hr
    exact pl_turn hl)
  unfold twoE
  simp only [List.findSome?_cons, List.findSome?_nil, List.map_cons, List.map_nil] at key
  cases e1 : plE lot h i with
  | some e =>
    rw [e1] at key
    obtain ⟨ρ', k⟩ := key
    simp [k]
  | none =>
  rw [e1] at key
  cases e2 : plE lot h j with
  | some e =>
    rw [e2] at key
    obtain ⟨ρ', k⟩ := key
    simp [k]
  | none =>
  rw [e2] at key
  obtain ⟨ρ', k, z, rfl⟩ := key
  obtain ⟨a, ga, ha, _, ia⟩ := plE_none e1
  obtain ⟨b, gb, hb, _, ib⟩ := plE_none e2
  have hno : noOrd lot i j = (!fits a b && !fits b a) := by unfold noOrd; rw [ga, gb]
  have f1 : callF P W (n + 3) 12 [a.D, b.D] M = .ok (.bl (!fits a b && !fits b a)) M := in_no_order (n := n + 1) a b
  have va := hv a (List.mem_of_getElem? ga)
  have vb := hv b (List.mem_of_getElem? gb)
  have c1 : callF P W (n + 3) 14 [.int h, a.D, b.D] M = .ok (.lst (lt (oneC h a b))) M := ending_course (n := n + 1) h a b va.1 vb.2
  have c2 : callF P W (n + 3) 14 [.int h, b.D, a.D] M = .ok (.lst (lt (oneC h b a))) M := ending_course (n := n + 1) h b a vb.1 va.2
  rw [hno]
  generalize q1 : lt (oneC h a b) = x1 at *
  generalize q2 : lt (oneC h b a) = x2 at *
  cases h3 : (!fits a b && !fits b a) with
  | false =>
    rw [h3] at f1
    simp [k, ia, ib, f1, er1]
  | true =>
    rw [h3] at f1
    simp [k, ia, ib, f1, c1, c2, ga, gb]
    exact ⟨q1.symm, q2.symm⟩
end
end K30

/-! AA30 -/
set_option maxRecDepth 100000
set_option maxHeartbeats 4000000
namespace K30
open G
variable {W : Nat}
section
variable {M : Store} {n : Nat}
structure VP (p : Pc) : Prop where
  ne : p.x ≠ []
  inc : p.x.Pairwise (· < ·)
  rng : ∀ s ∈ p.x, 1 ≤ s ∧ s ≤ 8
  d1 : 1 ≤ p.d
  d2 : p.d ≤ 30
structure VL (lot : List Pc) : Prop where
  len : lot.length ≤ 10
  all : ∀ p ∈ lot, VP p
def VT (a : Lt) : Prop := match a with | .b => True | .h v => 1 ≤ v ∧ v ≤ 8 | .w v => 0 ≤ v ∧ v ≤ 1000000000 | _ => False
structure VC (c : List Lt) : Prop where
  len : c.length ≤ 60
  all : ∀ a ∈ c, VT a
theorem inc_len : ∀ {l : List Int} {k : Int}, l.Pairwise (· < ·) → (∀ s ∈ l, k ≤ s ∧ s ≤ 8) → (l.length : Int) ≤ max 0 (9 - k)
  | [], k, _, _ => by simp; omega
  | a :: l, k, h, hr => by
    rw [List.pairwise_cons] at h
    have h1 := hr a List.mem_cons_self
    have := inc_len (l := l) (k := a + 1) h.2 fun s hs => ⟨by have := h.1 s hs; omega, (hr s (List.mem_cons_of_mem _ hs)).2⟩
    simp only [List.length_cons]
    omega
theorem VP.len {p : Pc} (h : VP p) : p.x.length ≤ 8 := by
  have := inc_len h.inc h.rng
  omega
theorem many_no {x : PySem.Str} {c : Prop} [Decidable c] (h : ¬ c) : many x c = none := if_neg h
theorem dropE_none {lot : List Pc} {c : List Lt} (h : VL lot) (h1 : ∀ a ∈ c, numE a = none) (h2 : ∀ a ∈ c, sklE a = none) (h3 : c.length ≤ 60) : dropE lot c = none := by
  have e1 : c.findSome? numE = none := List.findSome?_eq_none_iff.mpr h1
  have e2 : c.findSome? sklE = none := List.findSome?_eq_none_iff.mpr h2
  have e3 : lot.findSome? pskE = none := List.findSome?_eq_none_iff.mpr fun p hp => List.findSome?_eq_none_iff.mpr fun s hs => many_no (by have := ((h.all p hp).rng s hs).2; omega)
  have e4 : lot.findSome? belE = none := List.findSome?_eq_none_iff.mpr fun p hp => many_no (by have := (h.all p hp).d2; omega)
  have hl := h.len
  unfold dropE
  rw [e1, e2, e3, e4, many_no (by omega), many_no (by omega)]; rfl
theorem VT.num {a : Lt} (h : VT a) : numE a = none := by
  cases a with
  | w v => exact many_no (by have := h.2; omega)
  | _ => rfl
theorem VT.skl {a : Lt} (h : VT a) : sklE a = none := by
  cases a with
  | h v => exact many_no (by have := h.2; omega)
  | _ => rfl
theorem VT.ok {a : Lt} (h : VT a) : a.ok = true := by
  cases a with
  | b => rfl
  | h v => simpa [Lt.ok] using h.1
  | w v => simpa [Lt.ok] using h.1
  | _ => cases h
theorem badE_none {p : Pc} (h : VP p) (i : Nat) : badE i p = none := by
  have h1 : ¬ hd0 p.x < 1 := by
    cases e : p.x with
    | nil => exact absurd e h.ne
    | cons a r =>
      have := (h.rng a (by rw [e]; exact List.mem_cons_self)).1
      simp only [hd0]; omega
  have h2 : ¬ p.d < 1 := by have := h.d1; omega
  unfold badE
  have h3 : ¬ (p.x = [] ∨ hd0 p.x < 1 ∨ p.d < 1) := by
    rintro (h' | h' | h')
    · exact h.ne h'
    · exact h1 h'
    · exact h2 h'
  rw [if_neg h3]
  rw [List.findSome?_eq_none_iff]
  intro k hk
  have hk := range_mem hk
  unfold downE
  have g1 : p.x[k]? = some (p.x[k]'(by omega)) := by simp
  have g2 : p.x[1 + k]? = some (p.x[1 + k]'(by omega)) := by simp
  have := List.pairwise_iff_getElem.mp h.inc k (1 + k) (by omega) (by omega) (by omega)
  rw [if_neg]
  rw [g1, g2]; simp only [Option.getD_some]; omega
theorem pieceE_none {lot : List Pc} (h : ∀ p ∈ lot, VP p) : pieceE lot = none := by
  unfold pieceE
  rw [List.findSome?_eq_none_iff]
  rintro ⟨p, i⟩ hp
  exact badE_none (h p (List.fst_mem_of_mem_zipIdx hp)) i
theorem pieceE_bad {lot : List Pc} (h : ∀ p ∈ lot, VP p) : pieceE (lot ++ [⟨[], 1⟩]) = some (1, [.int (lot.length : Nat)]) := by
  have := pieceE_none h
  unfold pieceE at this ⊢
  rw [List.zipIdx_append, List.findSome?_append, this]
  simp [badE]
theorem hindE_none {lot : List Pc} {c : List Lt} (h : VL lot) (hc : VC c) : hindE lot c = none := by
  have e3 : letE c = none := by
    unfold letE
    rw [List.findSome?_eq_none_iff]
    intro i hi
    have hi := range_mem hi
    have hg : c[i]? = some c[i] := by simp [hi]
    unfold letE1
    rw [hg]
    simp [(hc.all _ (List.getElem_mem hi)).ok]
  unfold hindE
  rw [dropE_none h (fun a ha => (hc.all a ha).num) (fun a ha => (hc.all a ha).skl) hc.len, pieceE_none h.all, e3]; rfl
theorem VL.x {lot : List Pc} (h : VL lot) : ∀ p ∈ lot, p.x.length ≤ 100000 := fun p hp => by have := (h.all p hp).len; omega
theorem right_ok {lot : List Pc} {c : List Lt} (h : VL lot) (hc : VC c) (hn : 11 ≤ n) (hW : 100000 < W) : callF P W (n + 6) 26 [.lst (pl lot), .lst (lt c)] M = .ok (.bl true) M :=
  law_right (hindE_none h hc) (by have := h.len; omega) (by have := hc.len; omega) h.x (by have := h.len; omega) hW
theorem two_err {lot : List Pc} {h i j : Int} {x : D} (hl : VL lot) (he : twoE lot h i j = some (1, [x])) : callF P W (n + 5) 29 [.lst (pl lot), .int h, .int i, .int j] M = .ok (.tup [.str "bad piece", x]) M := by
  have := two_courses (W := W) (M := M) (n := n) (h := h) (i := i) (j := j) (by have := hl.len; omega) hl.x (dropE_none hl (c := []) (by simp) (by simp) (by simp)) (pieceE_none hl.all) (fun p hp => ⟨(hl.all p hp).ne, (hl.all p hp).d1, by have := (hl.all p hp).d2; omega⟩)
  rw [he] at this
  rw [callF_eq (k := f29) rfl rfl]
  simp only at this
  simp [f29, b29, rS_try, this, handle, er0, er1, er2, runH, runH.runHs, getF]
theorem two_errP {lot : List Pc} {h i j : Int} {x : D} (hl : lot.length ≤ 1000) (hx : ∀ p ∈ lot, p.x.length ≤ 100000) (h1 : dropE lot [] = none) (h2 : pieceE lot = some (1, [x])) : callF P W (n + 5) 29 [.lst (pl lot), .int h, .int i, .int j] M = .ok (.tup [.str "bad piece", x]) M := by
  have := two_bad (W := W) (M := M) (n := n) (h := h) (i := i) (j := j) hl hx h1 h2
  rw [callF_eq (k := f29) rfl rfl]
  simp [f29, b29, rS_try, this, handle, er0, er1, er2, runH, runH.runHs, getF]
theorem two_ok {lot : List Pc} {h i j : Int} (hl : VL lot) (he : twoE lot h i j = none) : ∃ a b, lot[i.toNat]? = some a ∧ lot[j.toNat]? = some b ∧ callF P W (n + 5) 29 [.lst (pl lot), .int h, .int i, .int j] M = .ok (.lst [.lst (lt (oneC h a b)), .lst (lt (oneC h b a))]) M := by
  have := two_courses (W := W) (M := M) (n := n) (h := h) (i := i) (j := j) (by have := hl.len; omega) hl.x (dropE_none hl (c := []) (by simp) (by simp) (by simp)) (pieceE_none hl.all) (fun p hp => ⟨(hl.all p hp).ne, (hl.all p hp).d1, by have := (hl.all p hp).d2; omega⟩)
  rw [he] at this
  obtain ⟨a, b, ga, gb, e⟩ := this
  refine ⟨a, b, ga, gb, ?_⟩
  rw [callF_eq (k := f29) rfl rfl]
  generalize lt (oneC h a b) = x1 at *
  generalize lt (oneC h b a) = x2 at *
  simp [f29, b29, rS_try, e]
theorem fault_some {lot : List Pc} {d : D} (h : faultO lot = some d) : ∃ (v i j : Nat) (a b : Pc), d = .tup [.int (v : Int), .int (i : Int), .int (j : Int)] ∧ lot[i]? = some a ∧ lot[j]? = some b ∧ (v : Int) ∈ a.x ∧ (v : Int) ∈ b.x ∧ fits a b = false ∧ fits b a = false := by
  obtain ⟨k, _, h1⟩ := List.exists_of_findSome?_eq_some h
  obtain ⟨i, _, h2⟩ := List.exists_of_findSome?_eq_some h1
  obtain ⟨j, _, h3⟩ := List.exists_of_findSome?_eq_some h2
  unfold bad3 at h3
  split at h3
  · rename_i hc
    cases h3
    unfold cond at hc
    split at hc
    · rename_i a b ga gb
      simp only [Bool.and_eq_true, decide_eq_true_eq, Bool.not_eq_true'] at hc
      exact ⟨1 + k, i, i + 1 + j, a, b, rfl, ga, gb, hc.1.1, hc.1.2, hc.2.1, hc.2.2⟩
    · cases hc
  · cases h3
theorem fault_none {lot : List Pc} (h : faultO lot = none) {v i j : Nat} {a b : Pc} (ga : lot[i]? = some a) (gb : lot[j]? = some b) (hij : i < j) (ha : (v : Int) ∈ a.x) (hb : (v : Int) ∈ b.x) (hv : 1 ≤ v ∧ v ≤ 8) : fits a b = true ∨ fits b a = true := by
  have hj := (List.getElem?_eq_some_iff.mp gb).1
  have h1 := List.findSome?_eq_none_iff.mp h (v - 1) (List.mem_range.mpr (by omega))
  have h2 := List.findSome?_eq_none_iff.mp h1 i (List.mem_range.mpr (by omega))
  have h3 := List.findSome?_eq_none_iff.mp h2 (j - (i + 1)) (List.mem_range.mpr (by omega))
  unfold bad3 at h3
  split at h3
  · cases h3
  · rename_i hc
    rw [show 1 + (v - 1) = v by omega, show i + 1 + (j - (i + 1)) = j by omega] at hc
    unfold cond at hc
    rw [ga, gb] at hc
    simp only [ha, hb, decide_true, Bool.true_and] at hc
    cases h4 : fits a b
    · cases h5 : fits b a
      · rw [h4, h5] at hc; exact absurd rfl hc
      · exact .inr rfl
    · exact .inl rfl
theorem no_fault {lot : List Pc} (h : ∀ a ∈ lot, ∀ b ∈ lot, fits a b = true ∨ fits b a = true) : faultO lot = none := by
  cases e : faultO lot with
  | none => rfl
  | some d =>
    obtain ⟨v, i, j, a, b, _, ga, gb, _, _, f1, f2⟩ := fault_some e
    rcases h a (List.mem_of_getElem? ga) b (List.mem_of_getElem? gb) with h | h
    · rw [f1] at h; cases h
    · rw [f2] at h; cases h
theorem hd0_mem {l : List Int} (h : l ≠ []) : hd0 l ∈ l := by
  cases l with
  | nil => exact absurd rfl h
  | cons a r => exact List.mem_cons_self
theorem oneC_v {h : Int} {a b : Pc} (va : VP a) (vb : VP b) (hh : 1 ≤ h ∧ h ≤ 8) : VC (oneC h a b) := by
  have h2 := vb.d2
  have h1 := vb.d1
  unfold oneC
  cases e : lack a b with
  | cons s l =>
    refine ⟨by simp, fun x hx => ?_⟩
    have hs : s ∈ a.x := (List.mem_filter.mp (show s ∈ lack a b by rw [e]; exact List.mem_cons_self)).1
    simp at hx
    rcases hx with rfl | rfl
    · exact hh
    · exact va.rng s hs
  | nil =>
    refine ⟨by simp; omega, fun x hx => ?_⟩
    simp at hx
    rcases hx with rfl | ⟨_, rfl⟩ | rfl
    · exact hh
    · trivial
    · exact va.rng _ (hd0_mem va.ne)
theorem oneC_dealt {h : Int} {a b : Pc} (va : VP a) (vb : VP b) (ha : h ∈ a.x) (hb : h ∈ b.x) (hf : fits a b = false) : Dealt (opts [a, b] (oneC h a b)) := by
  have h1 := vb.d1
  have h1a := va.d1
  unfold oneC
  cases e : lack a b with
  | cons s l =>
    have hs : s ∈ a.x := (List.mem_filter.mp (show s ∈ lack a b by rw [e]; exact List.mem_cons_self)).1
    refine ⟨[1, 0], ⟨rfl, by simp, fun i r o h1 h2 => ?_⟩⟩
    match i, h1, h2 with
    | 0, h1, h2 =>
      simp [opts] at h1 h2; subst h1 h2
      refine List.mem_filter.mpr ⟨by simp, ?_⟩
      simp [okAt, bells, hs]; omega
    | 1, h1, h2 =>
      simp [opts] at h1 h2; subst h1 h2
      refine List.mem_filter.mpr ⟨by simp, ?_⟩
      simp [okAt, bells, hb]
      exact decide_eq_true (show (0 : Int) < b.d by omega)
    | i + 2, h1, h2 => simp at h1
  | nil =>
    have hdd : b.d < a.d := by
      unfold fits at hf
      rw [lack_nil.mp e] at hf
      simp at hf; exact hf
    refine ⟨[b.d.toNat + 1, 0], ⟨rfl, by simp, fun i r o h1 h2 => ?_⟩⟩
    match i, h1, h2 with
    | 0, h1, h2 =>
      simp [opts] at h1 h2; subst h1 h2
      refine List.mem_filter.mpr ⟨by simp, ?_⟩
      have hm := hd0_mem va.ne
      have hbl : bells (List.take (b.d.toNat + 1) ([.h h] ++ List.replicate b.d.toNat .b ++ [.h (hd0 a.x)])) = b.d.toNat := by
        rw [List.take_append_of_le_length (by simp), List.take_of_length_le (by simp)]
        unfold bells
        simp
      have hg : ([Lt.h h] ++ List.replicate b.d.toNat .b ++ [.h (hd0 a.x)])[b.d.toNat + 1]? = some (.h (hd0 a.x)) := by
        rw [List.getElem?_append_right (by simp)]; simp
      simp only [List.cons_append, List.nil_append] at hg hbl
      unfold okAt
      rw [hg]
      simp only [hbl]
      simp [hm]; omega
    | 1, h1, h2 =>
      simp [opts] at h1 h2; subst h1 h2
      refine List.mem_filter.mpr ⟨by simp, ?_⟩
      simp [okAt, bells, hb]
      exact decide_eq_true (show (0 : Int) < b.d by omega)
    | i + 2, h1, h2 => simp at h1
end
end K30

/-! AB30 -/
set_option maxRecDepth 100000
set_option maxHeartbeats 4000000
namespace K30
open G
variable {W : Nat}
section
variable {M : Store} {n : Nat}
theorem top_lst {xs : List D} : G.top M (.lst xs) = .lst xs := rfl
theorem top_tup {xs : List D} : G.top M (.tup xs) = .tup xs := rfl
theorem at3 {α : Type} {a b c d : α} {r : List α} : L2.atI (a :: b :: c :: d :: r) 3 = some d := atI_nat (i := 3) rfl
theorem told_not_none {lot : List Pc} {c : List Lt} (h : VL lot) (hc : VC c) (hd : Dealt (opts lot c)) (hn : 11 ≤ n) (hW : 100000 < W) : ∃ k R, callF P W (n + 5) 25 [.lst (pl lot), .lst (lt c)] M = .ok (.ptr k) (M ++ R) := by
  rcases told_ok (W := W) (M := M) (n := n) (hindE_none h hc) (by have := h.len; omega) (by have := hc.len; omega) h.x (by have := h.len; omega) hW with ⟨_, nd⟩ | ⟨ps, R, e, _⟩
  · exact absurd hd nd
  · exact ⟨_, _, by rw [e, List.append_assoc]⟩
theorem nested_right {lot : List Pc} {must : Bool} (hl : VL lot) (hm : must = true → faultO lot ≠ none) (hn : 11 ≤ n) (hW : 100000 < W) : callF P W (n + 7) 30 [.lst (pl lot), .bl must] M = .ok (.bl true) M := by
  rw [callF_eq (k := f30) rfl rfl]
  have e27 : callF P W (n + 6) 27 [.lst (pl lot)] M = .ok ((faultO lot).getD .non) M := law_fault (n := n + 4) lot (by have := hl.len; omega) hl.x
  have e13 : callF P W (n + 6) 13 [.lst (pl lot)] M = .ok ((faultO lot).getD .non) M := nested_fault (n := n + 2) lot (by have := hl.len; omega) hl.x (dropE_none hl (c := []) (by simp) (by simp) (by simp)) (pieceE_none hl.all)
  cases hf : faultO lot with
  | none =>
    rw [hf] at e27 e13
    have hm' : must = false := by
      cases must with
      | false => rfl
      | true => exact absurd hf (hm rfl)
    subst hm'
    have hne : cmpop .ne .non .non M = .ok (.bl false) M := ne_same (d := .non) rfl
    simp only [Option.getD_none] at e27 e13
    simp [f30, b30, e27, e13, hne]
  | some d =>
    obtain ⟨v, i, j, a, b, rfl, ga, gb, ha, hb, f1, f2⟩ := fault_some hf
    rw [hf] at e27 e13
    simp only [Option.getD_some] at e27 e13
    have va := hl.all a (List.mem_of_getElem? ga)
    have vb := hl.all b (List.mem_of_getElem? gb)
    have hv := va.rng _ ha
    have pa : L2.atI (pl lot) (i : Int) = some a.D := pl_get ga
    have pb : L2.atI (pl lot) (j : Int) = some b.D := pl_get gb
    have hne : cmpop .ne (.tup [.int (v : Int), .int (i : Int), .int (j : Int)]) (.tup [.int (v : Int), .int (i : Int), .int (j : Int)]) M = .ok (.bl false) M := ne_same (by simp [top_tup, okd])
    have c1 : callF P W (n + 6) 28 [.int (v : Int), a.D, b.D] M = .ok (.lst (lt (oneC v a b))) M := one_course (n := n + 5) _ a b (by have := va.len; omega) va.ne ⟨vb.d1, by have := vb.d2; omega⟩
    have c2 : callF P W (n + 6) 28 [.int (v : Int), b.D, a.D] M = .ok (.lst (lt (oneC v b a))) M := one_course (n := n + 5) _ b a (by have := vb.len; omega) vb.ne ⟨va.d1, by have := va.d2; omega⟩
    have hi := (List.getElem?_eq_some_iff.mp ga).1
    have hj := (List.getElem?_eq_some_iff.mp gb).1
    have q1 : plE lot v i = none := by
      unfold plE xAt
      rw [Int.toNat_natCast, ga, if_pos ⟨by omega, by omega, ha⟩]
    have q2 : plE lot v j = none := by
      unfold plE xAt
      rw [Int.toNat_natCast, gb, if_pos ⟨by omega, by omega, hb⟩]
    have o1 : noOrd lot i j = true := by
      unfold noOrd; rw [Int.toNat_natCast, Int.toNat_natCast, ga, gb]; simp [f1, f2]
    have o2 : noOrd lot j i = true := by
      unfold noOrd; rw [Int.toNat_natCast, Int.toNat_natCast, ga, gb]; simp [f1, f2]
    obtain ⟨a1, b1, ga1, gb1, t1⟩ := two_ok (W := W) (M := M) (n := n + 1) (h := v) (i := i) (j := j) hl (by unfold twoE; rw [q1, q2, o1]; rfl)
    rw [Int.toNat_natCast, ga] at ga1
    rw [Int.toNat_natCast, gb] at gb1
    cases ga1; cases gb1
    obtain ⟨b1, a1, gb1, ga1, t2⟩ := two_ok (W := W) (M := M) (n := n + 1) (h := v) (i := j) (j := i) hl (by unfold twoE; rw [q1, q2, o2]; rfl)
    rw [Int.toNat_natCast, ga] at ga1
    rw [Int.toNat_natCast, gb] at gb1
    cases ga1; cases gb1
    have hk : n + 1 + 5 = n + 6 := rfl
    rw [hk] at t1 t2
    have vc1 := oneC_v va vb hv
    have vc2 := oneC_v vb va hv
    have vl : VL [a, b] := ⟨by simp, by simp [va, vb]⟩
    have r1 := right_ok (W := W) (M := M) (n := n) vl vc1 hn hW
    have r2 := right_ok (W := W) (M := M) (n := n) vl vc2 hn hW
    obtain ⟨k, R, t3⟩ := told_not_none (W := W) (M := M) (n := n + 1) vl vc1 (oneC_dealt va vb ha hb f1) (by omega) hW
    rw [hk] at t3
    have n1 : cmpop .ne (.lst [.lst (lt (oneC v a b)), .lst (lt (oneC v b a))]) (.lst [.lst (lt (oneC v a b)), .lst (lt (oneC v b a))]) M = .ok (.bl false) M := ne_same (by rw [top_lst, okd]; simp [okd_lts])
    have n2 : cmpop .ne (.lst [.lst (lt (oneC v b a)), .lst (lt (oneC v a b))]) (.lst [.lst (lt (oneC v b a)), .lst (lt (oneC v a b))]) M = .ok (.bl false) M := ne_same (by rw [top_lst, okd]; simp [okd_lts])
    simp only [List.map_cons, List.map_nil] at r1 r2 t3
    generalize lt (oneC v a b) = x1 at *
    generalize lt (oneC v b a) = x2 at *
    simp [f30, b30, e27, e13, hne, bindG_t, pa, pb, c1, c2, t1, t2, n1, n2, r1, r2, t3]

    exact finish_rt_cut rfl rfl
end
end K30

/-! AC30 -/
set_option maxRecDepth 100000
set_option maxHeartbeats 4000000
namespace K30
open G
variable {W : Nat}
section
variable {M : Store} {n : Nat}
theorem cut_to {xs : List D} {k : Nat} : cutd xs none (some (k : Int)) = xs.take k := by
  unfold cutd
  rw [HT.sIx_nat, HT.sIx_none]
  simp
theorem cut_from {xs : List D} {k : Nat} : cutd xs (some (k : Int)) none = xs.drop k := by
  unfold cutd
  rw [HT.sIx_nat, HT.sIx_none]
  by_cases h : k ≤ xs.length
  · rw [Nat.min_eq_left h, List.take_of_length_le (by simp)]
  · rw [Nat.min_eq_right (by omega)]
    simp
    omega
theorem cut_mid {xs : List D} {a b : Nat} : cutd xs (some (a : Int)) (some (b : Int)) = (xs.drop a).take (b - a) := by
  unfold cutd
  rw [HT.sIx_nat, HT.sIx_nat]
  by_cases h : a ≤ xs.length
  · rw [Nat.min_eq_left h, List.take_eq_take_iff]
    rw [List.length_drop]
    simp only [Nat.min_def]
    repeat' split
    all_goals omega
  · have h1 : xs.drop (min a xs.length) = [] := List.drop_eq_nil_of_le (by omega)
    have h2 : xs.drop a = [] := List.drop_eq_nil_of_le (by omega)
    rw [h1, h2]; simp
theorem perm_lift {α β : Type} {f : α → β} {ys l' : List β} (h : ys.Perm l') : ∀ l : List α, l.map f = l' → ∃ zs : List α, zs.Perm l ∧ zs.map f = ys := by
  induction h with
  | nil => intro l e; exact ⟨[], by rw [List.map_eq_nil_iff] at e; subst e; exact .refl _, rfl⟩
  | cons x _ ih =>
    intro l e
    cases l with
    | nil => cases e
    | cons a l =>
      rw [List.map_cons] at e
      cases e
      obtain ⟨zs, p, e⟩ := ih l rfl
      exact ⟨a :: zs, p.cons a, by rw [List.map_cons, e]⟩
  | swap x y l0 =>
    intro l e
    match l, e with
    | a :: b :: l, e =>
      rw [List.map_cons, List.map_cons] at e
      cases e
      exact ⟨b :: a :: l, .swap _ _ _, rfl⟩
  | trans _ _ ih1 ih2 =>
    intro l e
    obtain ⟨zs, p, e1⟩ := ih2 l e
    obtain ⟨ws, p2, e2⟩ := ih1 zs e1
    exact ⟨ws, p2.trans p, e2⟩
theorem underDs_il {k : Nat} {l : List Int} : underDs k (il l) = true := by
  rw [underDs_iff]
  intro x hx
  obtain ⟨a, _, rfl⟩ := List.mem_map.mp hx
  rfl
theorem underDs_pl {k : Nat} {l : List Pc} : underDs k (pl l) = true := by
  rw [underDs_iff]
  intro x hx
  obtain ⟨a, _, rfl⟩ := List.mem_map.mp hx
  simp [pc_D, underD, underDs, underDs_il]
theorem underDs_lt {k : Nat} {l : List Lt} : underDs k (lt l) = true := by
  rw [underDs_iff]
  intro x hx
  obtain ⟨a, _, rfl⟩ := List.mem_map.mp hx
  cases a <;> simp [lt_D, Lt.r, underD, underDs]
/-- all pools -/
structure PO (l : List Int) : Prop where
  nd : l.Nodup
  rng : ∀ s ∈ l, 1 ≤ s ∧ s ≤ 8
  len : 3 ≤ l.length ∧ l.length ≤ 8
theorem mix_il (p : Int × Int × Int) (l : List Int) (R : Store) (hx : l.length ≤ 100000) (hR : (R.all (underO (R.length + 1))) = true) : ∃ zs p', zs.Perm l ∧ callF P W (n + 2) 18 [.ptr 0, .lst (il l)] (pu p :: R) = .ok (.lst (il zs)) (pu p' :: R) := by
  obtain ⟨ys, p', hp, e⟩ := law_mix (W := W) (n := n) p (.lst (il l)) (il l) R (.inl rfl) (by simpa using hx) hR underDs_il
  obtain ⟨zs, hz, rfl⟩ := perm_lift hp l rfl
  exact ⟨zs, p', hz, e⟩
theorem mix_pl (p : Int × Int × Int) (x : D) (l : List Pc) (R : Store) (hh : LsD (pu p :: R) x (pl l)) (hx : l.length ≤ 100000) (hR : (R.all (underO (R.length + 1))) = true) : ∃ zs p', zs.Perm l ∧ callF P W (n + 2) 18 [.ptr 0, x] (pu p :: R) = .ok (.lst (pl zs)) (pu p' :: R) := by
  obtain ⟨ys, p', hp, e⟩ := law_mix (W := W) (n := n) p x (pl l) R hh (by simpa using hx) hR underDs_pl
  obtain ⟨zs, hz, rfl⟩ := perm_lift hp l rfl
  exact ⟨zs, p', hz, e⟩
/-- some of a pool, in order -/
theorem sort_inc {l zs : List Int} (h : PO l) (hz : zs.Nodup) (hs : ∀ s ∈ zs, s ∈ l) (hn : zs ≠ []) {d : Int} (h1 : 1 ≤ d) (h2 : d ≤ 30) : VP ⟨sortI zs, d⟩ := by
  refine ⟨?_, ?_, fun s hm => h.rng s (hs s ((sortI_perm zs).mem_iff.mp hm)), h1, h2⟩
  · intro e
    have := (sortI_perm zs).length_eq
    simp only at e
    rw [e] at this
    exact hn (List.length_eq_zero_iff.mp this.symm)
  · have hnd : (sortI zs).Nodup := (sortI_perm zs).symm.nodup hz
    exact ((sortI_sorted zs).and hnd).imp fun {a b} hh => by have := hh.2; omega
theorem take_ne {l : List Int} {k : Nat} (h : l ≠ []) (hk : 1 ≤ k) : l.take k ≠ [] := by
  cases l with
  | nil => exact absurd rfl h
  | cons a r => obtain ⟨j, rfl⟩ : ∃ j, k = j + 1 := ⟨k - 1, by omega⟩; simp
theorem PO.perm {l zs : List Int} (h : PO l) (p : zs.Perm l) : PO zs := ⟨p.symm.nodup h.nd, fun s hs => h.rng s (p.mem_iff.mp hs), by rw [p.length_eq]; exact h.len⟩
theorem PO.ne {l : List Int} (h : PO l) : l ≠ [] := by rintro rfl; have := h.len; simp at this
theorem law_lot (p : Int × Int × Int) (pool : List Int) (most many : Nat) (hp : PO pool) (hm : 1 ≤ most ∧ most ≤ 30) (hk : many ≤ 10) : ∃ lot p', lot.length = many ∧ (∀ q ∈ lot, VP q) ∧ callF P W (n + 3) 20 [.ptr 0, .lst (il pool), .int most, .int many] [pu p] = .ok (.lst (pl lot)) [pu p'] := by
  rw [callF_eq (k := f20) rfl rfl]
  have key := forL_inv (l := List.range many) (g := fun (i : Nat) => D.int (i : Int)) (f := foT P W (callF P W (n + 2)) (.n 5) b20_1) (fun i ρ M' => ∃ p lot, M' = [pu p, .lst (pl lot)] ∧ lot.length = i ∧ (∀ q ∈ lot, VP q) ∧ ∃ a b, ρ = [some (.ptr 0), some (.lst (il pool)), some (.int most), some (.int many), some (.ptr 1), a, b]) (ρ := [some (.ptr 0), some (.lst (il pool)), some (.int most), some (.int many), some (.ptr 1), none, none]) (M := [pu p, .lst []]) ⟨p, [], rfl, rfl, by simp, _, _, rfl⟩ ?_
  · obtain ⟨ρ', M', e, p', lot, rfl, hl, hv, a, b, rfl⟩ := key
    simp only [List.length_range] at hl
    refine ⟨lot, p', hl, hv, ?_⟩
    simp [f20, b20, rngI_nat (show many ≤ 16777216 by omega), e]
    exact finish_rt_cut2 (N := [pu p']) (R := [.dead]) rfl rfl (by simp only [underD]; exact underDs_pl) (by simp [underO, underDs, underD])
  · rintro _ i ρ M' hi ⟨p, lot, rfl, hl, hv, a, b, rfl⟩
    obtain ⟨hi, rfl⟩ := range_get hi
    have hR : (([.lst (pl lot)] : Store).all (underO (([.lst (pl lot)] : Store).length + 1))) = true := by simp [underO, underDs_pl]
    obtain ⟨zs, p1, hz, e1⟩ := mix_il (W := W) (n := n) p pool [.lst (pl lot)] (by have := hp.len; omega) hR
    obtain ⟨v, p2, hv2, e2⟩ := drawN (W := W) (n := n + 1) p1 (min 3 pool.length) (by have := hp.len; omega) (by omega) [.lst (pl lot)]
    obtain ⟨d, p3, hd, e3⟩ := drawN (W := W) (n := n + 1) p2 most hm.1 (by omega) [.lst (pl lot)]
    have hmin : birun .min2 [.int 3, .int pool.length] (pu p1 :: [.lst (pl lot)]) = .ok (.int (min 3 pool.length : Nat)) (pu p1 :: [.lst (pl lot)]) := by
      rw [bi_min2]
      congr 2
      have := hp.len
      split <;> omega
    have hc : cutd (il zs) none (some (1 + (v : Int))) = il (zs.take (1 + v)) := by
      have := cut_to (xs := il zs) (k := 1 + v)
      rw [show ((1 + v : Nat) : Int) = 1 + (v : Int) by omega] at this
      rw [this]; simp [il, List.map_take]
    have hs : srtD false (intsOf (il (zs.take (1 + v)))) (pairsOf (il (zs.take (1 + v)))) (pu p2 :: [.lst (pl lot)]) = .ok (.lst (il (sortI (zs.take (1 + v))))) (pu p2 :: [.lst (pl lot)]) := by
      rw [intsOf_il]; rfl
    have hpo := hp.perm hz
    have hv3 : VP ⟨sortI (zs.take (1 + v)), 1 + (d : Int)⟩ := sort_inc hp ((hpo.nd).sublist (List.take_sublist _ _)) (fun s hs => hz.mem_iff.mp (List.mem_of_mem_take hs)) (take_ne hpo.ne (by omega)) (by omega) (by omega)
    have hbig : lot.length < big := by simp [big, PySem.sizeLine]; omega
    generalize sortI (zs.take (1 + v)) = sk at *
    generalize il (zs.take (1 + v)) = X at hc hs
    have hN : n + 1 + 1 = n + 2 := rfl
    rw [hN] at e2 e3
    refine ⟨[some (.ptr 0), some (.lst (il pool)), some (.int most), some (.int many), some (.ptr 1), some (.int (i : Int)), some (.lst (il sk))], [pu p3, .lst (pl (lot ++ [⟨sk, 1 + d⟩]))], ?_, p3, lot ++ [⟨sk, 1 + d⟩], rfl, by simp [hl], ?_, _, _, rfl⟩
    · have hmm : ((min 3 pool.length : Nat) : Int) = if (pool.length : Int) < 3 then (pool.length : Int) else 3 := by split <;> omega
      rw [hmm] at e2
      simp [foT_app, b20_1, e1, e2, hc, hs, e3, hbig, Pc.D]
    · intro q hq
      rcases List.mem_append.mp hq with hq | hq
      · exact hv q hq
      · simp at hq; subst hq; exact hv3
end
end K30

/-! AD30 -/
set_option maxRecDepth 100000
set_option maxHeartbeats 4000000
namespace K30
open G
variable {W : Nat}
section
variable {M : Store} {n : Nat}
theorem drawZ (p : Int × Int × Int) (m : Int) (hm : 0 < m) (hm2 : m < 1073741824) (R : Store) : ∃ (v : Nat) (p' : Int × Int × Int), (v : Int) < m ∧ callF P W (n + 1) 17 [.ptr 0, .int m] (pu p :: R) = .ok (.int v) (pu p' :: R) := by
  obtain ⟨v, p', h0, h1, e⟩ := draw (W := W) (n := n) p m (by omega) (by omega) R
  obtain ⟨k, rfl⟩ := Int.eq_ofNat_of_zero_le h0
  exact ⟨k, p', by omega, e⟩
theorem mem_sortI {l : List Int} {s : Int} : s ∈ sortI l ↔ s ∈ l := (sortI_perm l).mem_iff
theorem fits_no {a b : Pc} {s : Int} (h1 : s ∈ a.x) (h2 : s ∉ b.x) : fits a b = false := by
  unfold fits
  have : (a.x.all fun s => decide (s ∈ b.x)) = false := by
    rw [List.all_eq_false]; exact ⟨s, h1, by simpa using h2⟩
  rw [this]; rfl
theorem fits_late {a b : Pc} (h : b.d < a.d) : fits a b = false := by
  unfold fits
  have : decide (a.d ≤ b.d) = false := by simp; omega
  rw [this, Bool.and_false]
theorem fits_yes {a b : Pc} (h1 : ∀ s ∈ a.x, s ∈ b.x) (h2 : a.d ≤ b.d) : fits a b = true := by
  unfold fits
  rw [Bool.and_eq_true]
  exact ⟨List.all_eq_true.mpr fun s hs => by simpa using h1 s hs, by simpa using h2⟩
theorem srt_il {l : List Int} : srtD false (intsOf (il l)) (pairsOf (il l)) M = .ok (.lst (il (sortI l))) M := by
  rw [intsOf_il]; rfl
theorem bi_srt {l : List Int} : birun (.sorted false) [.lst (il l)] M = .ok (.lst (il (sortI l))) M := srt_il
theorem law_pair (p : Int × Int × Int) (pool : List Int) (hp : PO pool) : ∃ a b p', VP a ∧ VP b ∧ (∃ v, v ∈ a.x ∧ v ∈ b.x) ∧ fits a b = false ∧ fits b a = false ∧ callF P W (n + 3) 31 [.ptr 0, .lst (il pool)] [pu p] = .ok (.lst (pl [a, b])) [pu p'] := by
  rw [callF_eq (k := f31) rfl rfl]
  obtain ⟨zs, p1, hz, e1⟩ := mix_il (W := W) (n := n) p pool [] (by have := hp.len; omega) rfl
  obtain ⟨v, p2, hv, e2⟩ := drawZ (W := W) (n := n + 1) p1 2 (by omega) (by omega) []
  have hpo := hp.perm hz
  have hlen := hpo.len.1
  match zs, hlen, hz, hpo, e1 with
  | z0 :: z1 :: z2 :: r, _, hz, hpo, e1 =>
    have hnd := hpo.nd
    simp only [List.nodup_cons, List.mem_cons, not_or] at hnd
    have hsub : ∀ {l : List Int}, (∀ s ∈ l, s = z0 ∨ s = z1 ∨ s = z2) → ∀ s ∈ l, s ∈ pool := fun h s hs => hz.mem_iff.mp (by
      rcases h s hs with rfl | rfl | rfl <;> simp)
    have c1 : cutd (il (z0 :: z1 :: z2 :: r)) none (some 1) = il [z0] := cut_to (k := 1)
    have c2 : cutd (il (z0 :: z1 :: z2 :: r)) none (some 2) = il [z0, z1] := cut_to (k := 2)
    have c3 : cutd (il (z0 :: z1 :: z2 :: r)) (some 1) (some 3) = il [z1, z2] := cut_mid (a := 1) (b := 3)
    have hN : n + 1 + 1 = n + 2 := rfl
    rw [hN] at e2
    by_cases h0 : v = 0
    · subst h0
      obtain ⟨d1, p3, hd1, e3⟩ := drawZ (W := W) (n := n + 1) p2 9 (by omega) (by omega) []
      obtain ⟨d2, p4, hd2, e4⟩ := drawZ (W := W) (n := n + 1) p3 30 (by omega) (by omega) []
      rw [hN] at e3 e4
      refine ⟨⟨sortI [z0, z1], 1 + d1⟩, ⟨sortI [z1, z2], 1 + d2⟩, p4, ?_, ?_, ⟨z1, ?_, ?_⟩, ?_, ?_, ?_⟩
      · exact sort_inc hp (by simp; exact hnd.1.1) (hsub (by simp)) (by simp) (by omega) (by omega)
      · exact sort_inc hp (by simp; exact hnd.2.1.1) (hsub (by simp)) (by simp) (by omega) (by omega)
      · rw [mem_sortI]; simp
      · rw [mem_sortI]; simp
      · exact fits_no (s := z0) (by rw [mem_sortI]; simp) (by rw [mem_sortI]; simp; exact ⟨hnd.1.1, hnd.1.2.1⟩)
      · exact fits_no (s := z2) (by rw [mem_sortI]; simp) (by rw [mem_sortI]; simp; exact ⟨fun e => hnd.1.2.1 e.symm, fun e => hnd.2.1.1 e.symm⟩)
      · generalize il (z0 :: z1 :: z2 :: r) = X at *
        have s1 := fun (M : Store) => srt_il (M := M) (l := [z0, z1])
        have s2 := fun (M : Store) => srt_il (M := M) (l := [z1, z2])
        generalize il [z0, z1] = X1 at *
        generalize il [z1, z2] = X2 at *
        generalize hy1 : il (sortI [z0, z1]) = Y1 at *
        generalize hy2 : il (sortI [z1, z2]) = Y2 at *
        simp [f31, b31, e1, e2, c2, c3, s1, s2, e3, e4, Pc.D, hy1, hy2]
        exact finish_rt_same rfl
    · obtain ⟨d0, p3, hd0, e3⟩ := drawZ (W := W) (n := n + 1) p2 29 (by omega) (by omega) []
      obtain ⟨d1, p4, hd1, e4⟩ := drawZ (W := W) (n := n + 1) p3 (30 - (1 + (d0 : Int))) (by omega) (by omega) []
      rw [hN] at e3 e4
      refine ⟨⟨sortI [z0], 1 + d0 + 1 + d1⟩, ⟨sortI [z0, z1], 1 + d0⟩, p4, ?_, ?_, ⟨z0, ?_, ?_⟩, ?_, ?_, ?_⟩
      · exact sort_inc hp (by simp) (hsub (by simp)) (by simp) (by omega) (by omega)
      · exact sort_inc hp (by simp; exact hnd.1.1) (hsub (by simp)) (by simp) (by omega) (by omega)
      · rw [mem_sortI]; simp
      · rw [mem_sortI]; simp
      · exact fits_late (by show (1 : Int) + d0 < 1 + d0 + 1 + d1; omega)
      · exact fits_no (s := z1) (by rw [mem_sortI]; simp) (by rw [mem_sortI]; simp; exact fun e => hnd.1.1 e.symm)
      · have hv0 : ((v : Int) == 0) = false := by rw [beq_eq_false_iff_ne]; omega
        have hv1 : ¬ (v : Int) = 0 := by omega
        generalize il (z0 :: z1 :: z2 :: r) = X at *
        have s1 := fun (M : Store) => srt_il (M := M) (l := [z0, z1])
        have s2 := fun (M : Store) => srt_il (M := M) (l := [z0])
        generalize il [z0, z1] = X1 at *
        generalize il [z0] = X2 at *
        generalize hy1 : il (sortI [z0, z1]) = Y1 at *
        generalize hy2 : il (sortI [z0]) = Y2 at *
        simp [f31, b31, e1, e2, h0, c1, c2, s1, s2, e3, e4, Pc.D, hy1, hy2]
        exact finish_rt_same rfl
end
end K30

/-! AE30 -/
set_option maxRecDepth 100000
set_option maxHeartbeats 4000000
namespace K30
open G
variable {W : Nat}
section
variable {M : Store} {n : Nat}
/-- a chain's state -/
structure Chn (pool : List Int) (lot : List Pc) (sk : List Int) (due : Int) : Prop where
  nd : sk.Nodup
  sub : ∀ s ∈ sk, s ∈ pool
  ne : sk ≠ []
  d1 : 1 ≤ due
  d2 : due ≤ 30
  vp : ∀ q ∈ lot, VP q
  pw : lot.Pairwise fun a b => fits a b = true
  top : ∀ q ∈ lot, (∀ s ∈ q.x, s ∈ sk) ∧ q.d ≤ due
theorem Chn.grow {pool : List Int} {lot : List Pc} {sk : List Int} {due : Int} (h : Chn pool lot sk due) {ex : List Int} (he : (sk ++ ex).Nodup) (hs : ∀ s ∈ ex, s ∈ pool) {d' : Int} (h1 : due ≤ d') (h2 : d' ≤ 30) : Chn pool (lot ++ [⟨sortI (sk ++ ex), d'⟩]) (sk ++ ex) d' ∨ ¬ PO pool := by
  by_cases hp : PO pool
  · left
    have hsub : ∀ s ∈ sk ++ ex, s ∈ pool := fun s hm => by
      rcases List.mem_append.mp hm with hm | hm
      · exact h.sub s hm
      · exact hs s hm
    have hd1 := h.d1
    have hne : sk ++ ex ≠ [] := by
      intro e
      exact h.ne (List.append_eq_nil_iff.mp e).1
    have hv := sort_inc hp he hsub hne (d := d') (by omega) h2
    refine ⟨he, hsub, hne, by omega, h2, fun q hq => ?_, ?_, fun q hq => ?_⟩
    · rcases List.mem_append.mp hq with hq | hq
      · exact h.vp q hq
      · simp at hq; subst hq; exact hv
    · rw [List.pairwise_append]
      refine ⟨h.pw, by simp, fun a ha b hb => ?_⟩
      simp at hb; subst hb
      obtain ⟨t1, t2⟩ := h.top a ha
      exact fits_yes (fun s hm => by rw [mem_sortI]; exact List.mem_append_left _ (t1 s hm)) (by show a.d ≤ d'; omega)
    · rcases List.mem_append.mp hq with hq | hq
      · obtain ⟨t1, t2⟩ := h.top q hq
        exact ⟨fun s hm => List.mem_append_left _ (t1 s hm), by omega⟩
      · simp at hq; subst hq
        exact ⟨fun s hm => by rw [mem_sortI] at hm; exact hm, Int.le_refl _⟩
  · exact .inr hp
theorem law_chain (p : Int × Int × Int) (pool : List Int) (many : Nat) (hp : PO pool) (hk : many ≤ 10) : ∃ lot p', VL lot ∧ (∀ a ∈ lot, ∀ b ∈ lot, fits a b = true ∨ fits b a = true) ∧ callF P W (n + 3) 32 [.ptr 0, .lst (il pool), .int many] [pu p] = .ok (.lst (pl lot)) [pu p'] := by
  rw [callF_eq (k := f32) rfl rfl]
  have h0 := hd0_at hp.ne
  have hm0 := hd0_mem hp.ne
  have key := forL_inv (l := List.range many) (g := fun (i : Nat) => D.int (i : Int)) (f := foT P W (callF P W (n + 2)) (.n 6) b32_1) (fun i ρ M' => ∃ p lot sk due, M' = [pu p, .lst (pl lot)] ∧ lot.length = i ∧ Chn pool lot sk due ∧ ∃ a b, ρ = [some (.ptr 0), some (.lst (il pool)), some (.int many), some (.ptr 1), some (.lst (il sk)), some (.int due), a, b]) (ρ := [some (.ptr 0), some (.lst (il pool)), some (.int many), some (.ptr 1), some (.lst (il [hd0 pool])), some (.int 1), none, none]) (M := [pu p, .lst []]) ⟨p, [], [hd0 pool], 1, rfl, rfl, ⟨by simp, by simpa using hm0, by simp, by omega, by omega, by simp, by simp, by simp⟩, _, _, rfl⟩ ?_
  · obtain ⟨ρ', M', e, p', lot, sk, due, rfl, hl, hc, a, b, rfl⟩ := key
    simp only [List.length_range] at hl
    obtain ⟨zs, p2, hz, e2⟩ := mix_pl (W := W) (n := n) p' (.ptr 1) lot [.lst (pl lot)] (.inr ⟨1, rfl, rfl⟩) (by omega) (by simp [underO, underDs_pl])
    refine ⟨zs, p2, ⟨by rw [hz.length_eq]; omega, fun q hq => hc.vp q (hz.mem_iff.mp hq)⟩, fun a ha b hb => ?_, ?_⟩
    · have ha := hz.mem_iff.mp ha
      have hb := hz.mem_iff.mp hb
      obtain ⟨i, hi, rfl⟩ := List.getElem_of_mem ha
      obtain ⟨j, hj, rfl⟩ := List.getElem_of_mem hb
      rcases Nat.lt_trichotomy i j with h | h | h
      · exact .inl (List.pairwise_iff_getElem.mp hc.pw i j hi hj h)
      · subst h; exact .inl (fits_yes (fun _ h => h) (Int.le_refl _))
      · exact .inr (List.pairwise_iff_getElem.mp hc.pw j i hj hi h)
    · simp only [List.map_cons, List.map_nil] at e
      simp [f32, b32, h0, rngI_nat (show many ≤ 16777216 by omega), e, e2]
      exact finish_rt_cut2 (N := [pu p2]) (R := [.lst (pl lot)]) rfl rfl (by simp only [underD]; exact underDs_pl) (by simp [underO, underDs, underD])
  · rintro _ i ρ M' hi ⟨p, lot, sk, due, rfl, hl, hc, a, b, rfl⟩
    obtain ⟨hi, rfl⟩ := range_get hi
    have hbig : (pl lot).length < big := by simp [big, PySem.sizeLine]; omega
    obtain ⟨v, p1, hv, e1⟩ := drawZ (W := W) (n := n + 1) p 2 (by omega) (by omega) [.lst (pl lot)]
    obtain ⟨d, p2, hd, e2⟩ := drawZ (W := W) (n := n + 1) p1 3 (by omega) (by omega) [.lst (pl lot)]
    have hN : n + 1 + 1 = n + 2 := rfl
    rw [hN] at e1 e2
    have hd2 := hc.d2
    have hd1 := hc.d1
    let d' : Int := if due + d < 30 then due + d else 30
    have hdd : due ≤ d' ∧ d' ≤ 30 := by show due ≤ (if due + d < 30 then due + d else 30) ∧ (if due + d < 30 then due + d else 30) ≤ 30; split <;> omega
    by_cases h2 : v = 0
    · subst h2
      have hlc := lcA_filter (l := pool) (acc := []) (f := lcT P W (callF P W (n + 2)) [some (.ptr 0), some (.lst (il pool)), some (.int many), some (.ptr 1), some (.lst (il sk)), some (.int due), some (.int (i : Int)), b] (.n 7) (.cons (.cmp .nin (.v 7) (.v 4)) .nil) (.v 7)) (g := D.int) (k := D.int) (p := fun s => !decide (s ∈ sk)) (M := [pu p1, .lst (pl lot)]) (fun s hs => by
        have e := nin_il (M := [pu p1, .lst (pl lot)]) (X := .lst (il sk)) (l := sk) (s := s) rfl
        by_cases h : s ∈ sk
        · simp [lcT_app, gslots, wipeR, e, h, Res.noerr]
        · simp [lcT_app, gslots, wipeR, e, h, Res.noerr]) (by have := hp.len; simp [big, PySem.sizeLine]; omega)
      simp only [List.nil_append] at hlc
      generalize hex : pool.filter (fun s => !decide (s ∈ sk)) = ex at hlc
      have hexs : ∀ s ∈ ex, s ∈ pool ∧ s ∉ sk := fun s hs => by
        rw [← hex] at hs
        have := List.mem_filter.mp hs
        exact ⟨this.1, by simpa using this.2⟩
      have hexn : ex.Nodup := by rw [← hex]; exact hp.nd.sublist List.filter_sublist
      have hnd : (sk ++ ex.take 1).Nodup := by
        rw [List.nodup_append]
        refine ⟨hc.nd, hexn.sublist (List.take_sublist _ _), fun s hs t ht => ?_⟩
        rintro rfl
        exact (hexs _ (List.mem_of_mem_take ht)).2 hs
      have hg := (hc.grow hnd (fun s hs => (hexs s (List.mem_of_mem_take hs)).1) hdd.1 hdd.2).resolve_right fun h => h hp
      have hskl : sk.length ≤ 8 := by
        have := List.Nodup.length_le_of_subset hc.nd (l₂ := pool) hc.sub
        have := hp.len; omega
      have ct : cutd (il ex) none (some 1) = il (ex.take 1) := by rw [show il (ex.take 1) = (il ex).take 1 by simp [il, List.map_take]]; exact cut_to (k := 1)
      have hadd : ∀ M : Store, binop .add (.lst (il sk)) (.lst (il (ex.take 1))) M = .ok (.lst (il (sk ++ ex.take 1))) M := fun M => by
        rw [add_ll (by simp [big, PySem.sizeLine]; omega)]; simp [il]
      have s1 := fun (M : Store) => srt_il (M := M) (l := sk ++ ex.take 1)
      have hlc2 : lcA (lcT P W (callF P W (n + 2)) [some (.ptr 0), some (.lst (il pool)), some (.int many), some (.ptr 1), some (.lst (il sk)), some (.int due), some (.int (i : Int)), b] (.n 7) (.cons (.cmp .nin (.v 7) (.v 4)) .nil) (.v 7)) (il pool) [] [pu p1, .lst (pl lot)] = .ok (il ex) [pu p1, .lst (pl lot)] := hlc
      refine ⟨[some (.ptr 0), some (.lst (il pool)), some (.int many), some (.ptr 1), some (.lst (il (sk ++ ex.take 1))), some (.int d'), some (.int (i : Int)), b], [pu p2, .lst (pl (lot ++ [⟨sortI (sk ++ ex.take 1), d'⟩]))], ?_, p2, _, _, _, rfl, by simp [hl], hg, _, _, rfl⟩
      have hpl : pl (lot ++ [⟨sortI (sk ++ ex.take 1), d'⟩]) = pl lot ++ [.tup [.tup (il (sortI (sk ++ ex.take 1))), .int d']] := by simp [Pc.D]
      rw [hpl]
      clear hg hpl hlc
      generalize il (sk ++ ex.take 1) = Y at *
      generalize il (sortI (sk ++ ex.take 1)) = Z at *
      generalize il (ex.take 1) = Y2 at *
      generalize il ex = Y1 at *
      generalize il sk = Y3 at *
      have hdf : d' = if due + d < 30 then due + d else 30 := rfl
      generalize d' = dd at *
      generalize pl lot = L at *
      simp [foT_app, b32_1, e1, hlc2, ct, hadd, e2, s1, ← hdf, hbig]
    · have hv0 : ((v : Int) == 0) = false := by rw [beq_eq_false_iff_ne]; omega
      have hg := (hc.grow (ex := []) (by simpa using hc.nd) (by simp) hdd.1 hdd.2).resolve_right fun h => h hp
      rw [List.append_nil] at hg
      have s1 := fun (M : Store) => srt_il (M := M) (l := sk)
      refine ⟨[some (.ptr 0), some (.lst (il pool)), some (.int many), some (.ptr 1), some (.lst (il sk)), some (.int d'), some (.int (i : Int)), b], [pu p2, .lst (pl (lot ++ [⟨sortI sk, d'⟩]))], ?_, p2, _, _, _, rfl, by simp [hl], hg, _, _, rfl⟩
      have hpl : pl (lot ++ [⟨sortI sk, d'⟩]) = pl lot ++ [.tup [.tup (il (sortI sk)), .int d']] := by simp [Pc.D]
      rw [hpl]
      clear hg hpl
      generalize il (sortI sk) = Z at *
      generalize il sk = Y3 at *
      have hdf : d' = if due + d < 30 then due + d else 30 := rfl
      generalize d' = dd at *
      generalize pl lot = L at *
      simp [foT_app, b32_1, e1, h2, e2, s1, ← hdf, hbig]
end
end K30

/-! AF30 -/
set_option maxRecDepth 100000
set_option maxHeartbeats 4000000
namespace K30
open G
variable {W : Nat}
section
variable {M : Store} {n : Nat}
theorem lt_snoc {c : List Lt} {a : Lt} : lt (c ++ [a]) = lt c ++ [a.D] := by simp
theorem law_drawn_course (p : Int × Int × Int) (pool : List Int) (hp : PO pool) : ∃ c p', VC c ∧ callF P W (n + 3) 22 [.ptr 0, .lst (il pool)] [pu p] = .ok (.lst (lt c)) [pu p'] := by
  rw [callF_eq (k := f22) rfl rfl]
  obtain ⟨m, p1, hm, e1⟩ := drawZ (W := W) (n := n + 1) p 12 (by omega) (by omega) [.lst []]
  have hN : n + 1 + 1 = n + 2 := rfl
  rw [hN] at e1
  have key := forL_inv (l := List.range m) (g := fun (i : Nat) => D.int (i : Int)) (f := foT P W (callF P W (n + 2)) (.n 3) b22_1) (fun i ρ M' => ∃ p c, M' = [pu p, .lst (lt c)] ∧ c.length = i ∧ (∀ a ∈ c, VT a) ∧ ∃ a b, ρ = [some (.ptr 0), some (.lst (il pool)), some (.ptr 1), a, b]) (ρ := [some (.ptr 0), some (.lst (il pool)), some (.ptr 1), none, none]) (M := [pu p1, .lst []]) ⟨p1, [], rfl, rfl, by simp, _, _, rfl⟩ ?_
  · obtain ⟨ρ', M', e, p', c, rfl, hl, hc, a, b, rfl⟩ := key
    simp only [List.length_range] at hl
    refine ⟨c, p', ⟨by omega, hc⟩, ?_⟩
    simp [f22, b22, e1, rngI_nat (show m ≤ 16777216 by omega), e]
    exact finish_rt_cut2 (N := [pu p']) (R := [.dead]) rfl rfl (by simp only [underD]; exact underDs_lt) (by simp [underO, underDs, underD])
  · rintro _ i ρ M' hi ⟨p, c, rfl, hl, hc, a, b, rfl⟩
    obtain ⟨hi, rfl⟩ := range_get hi
    have hbig : (lt c).length < big := by simp [big, PySem.sizeLine]; omega
    obtain ⟨k, p2, hk, e2⟩ := drawZ (W := W) (n := n + 1) p 6 (by omega) (by omega) [.lst (lt c)]
    rw [hN] at e2
    have fin : ∀ (x : Lt) (p3 : Int × Int × Int), VT x → foT P W (callF P W (n + 2)) (.n 3) b22_1 (.int (i : Int)) [some (.ptr 0), some (.lst (il pool)), some (.ptr 1), a, b] [pu p, .lst (lt c)] = some (.nx [some (.ptr 0), some (.lst (il pool)), some (.ptr 1), some (.int (i : Int)), some (.int (k : Int))], [pu p3, .lst (lt (c ++ [x]))]) →
        ∃ ρ' M', foT P W (callF P W (n + 2)) (.n 3) b22_1 (.int (i : Int)) [some (.ptr 0), some (.lst (il pool)), some (.ptr 1), a, b] [pu p, .lst (lt c)] = some (.nx ρ', M') ∧ ∃ p c, M' = [pu p, .lst (lt c)] ∧ c.length = i + 1 ∧ (∀ a ∈ c, VT a) ∧ ∃ a b, ρ' = [some (.ptr 0), some (.lst (il pool)), some (.ptr 1), a, b] := by
      intro x p3 hx e
      refine ⟨_, _, e, p3, _, rfl, by simp [hl], fun y hy => ?_, _, _, rfl⟩
      rcases List.mem_append.mp hy with hy | hy
      · exact hc y hy
      · simp at hy; subst hy; exact hx
    by_cases h4 : (k : Int) < 4
    · obtain ⟨v, p3, hv, e3⟩ := drawN (W := W) (n := n + 1) p2 pool.length (by have := hp.len; omega) (by have := hp.len; omega) [.lst (lt c)]
      rw [hN] at e3
      have hg : pool[v]? = some pool[v] := by simp [hv]
      have ha := il_get hg
      refine fin (.h pool[v]) p3 (hp.rng _ (List.getElem_mem hv)) ?_
      rw [lt_snoc]
      generalize lt c = L at *
      simp [foT_app, b22_1, e2, h4, e3, ha, hbig, Lt.D]
    · by_cases h5 : k = 4
      · subst h5
        refine fin .b p2 trivial ?_
        rw [lt_snoc]
        generalize lt c = L at *
        simp [foT_app, b22_1, e2, hbig, Lt.D]
      · obtain ⟨v, p3, hv, e3⟩ := drawZ (W := W) (n := n + 1) p2 1000000001 (by omega) (by omega) [.lst (lt c)]
        rw [hN] at e3
        have h6 : ((k : Int) == 4) = false := by rw [beq_eq_false_iff_ne]; omega
        refine fin (.w v) p3 ⟨by omega, by omega⟩ ?_
        rw [lt_snoc]
        generalize lt c = L at *
        have e4 : ∀ M : Store, binop .add (.int 1000000000) (.int 1) M = .ok (.int 1000000001) M := fun M => rfl
        simp [foT_app, b22_1, e2, h4, h6, pow_9, e3, hbig, Lt.D]
/-- a course whose letters are given out: beside each letter the piece that gets it -/
def Given (lot : List Pc) (zs : List (Lt × Option Nat)) : Prop := (zs.filterMap (·.2)).Nodup ∧ ∀ (k i : Nat) (a : Lt), zs[k]? = some (a, some i) → ∃ p s, lot[i]? = some p ∧ a = .h s ∧ s ∈ p.x ∧ (bells ((zs.map (·.1)).take k) : Int) < p.d
theorem deal_of {lot : List Pc} {zs : List (Lt × Option Nat)} (h : Given lot zs) (hall : ∀ i, i < lot.length → i ∈ zs.filterMap (·.2)) : Dealt (opts lot (zs.map (·.1))) := by
  have hex : ∀ i, i < lot.length → ∃ (k : Nat) (a : Lt), zs[k]? = some (a, some i) := by
    intro i hi
    obtain ⟨⟨a, o⟩, hm, e⟩ := List.mem_filterMap.mp (hall i hi)
    simp only at e
    subst e
    obtain ⟨k, hk, e⟩ := List.getElem_of_mem hm
    exact ⟨k, a, by simp [hk, e]⟩
  have hex2 : ∀ i : Nat, ∃ k : Nat, i < lot.length → ∃ a : Lt, zs[k]? = some (a, some i) := by
    intro i
    by_cases hi : i < lot.length
    · obtain ⟨k, a, e⟩ := hex i hi
      exact ⟨k, fun _ => ⟨a, e⟩⟩
    · exact ⟨0, fun h => absurd h hi⟩
  obtain ⟨f, hf⟩ := Classical.axiomOfChoice hex2
  refine ⟨(List.range lot.length).map f, by simp [opts], get_nodup fun i j r h1 h2 => ?_, fun i r o h1 h2 => ?_⟩
  · simp only [List.getElem?_map, List.getElem?_range, Option.map_eq_some_iff] at h1 h2
    obtain ⟨i', h1, rfl⟩ := h1
    obtain ⟨j', h2, e⟩ := h2
    obtain ⟨hi, rfl⟩ := range_get h1
    obtain ⟨hj, rfl⟩ := range_get h2
    obtain ⟨a, e1⟩ := hf _ hi
    obtain ⟨b, e2⟩ := hf _ hj
    rw [e] at e2
    rw [e1] at e2
    simp at e2
    exact e2.2
  · simp only [List.getElem?_map, Option.map_eq_some_iff] at h1
    obtain ⟨i', h1, rfl⟩ := h1
    obtain ⟨hi, rfl⟩ := range_get h1
    obtain ⟨a, e1⟩ := hf _ hi
    obtain ⟨p, s, hp, rfl, hs, hb⟩ := h.2 _ _ _ e1
    simp only [opts, List.getElem?_map, hp, Option.map_some, Option.some.injEq] at h2
    subst h2
    have hk := (List.getElem?_eq_some_iff.mp e1).1
    refine List.mem_filter.mpr ⟨by simpa using hk, ?_⟩
    unfold okAt
    rw [List.getElem?_map, e1]
    simp only [Option.map_some]
    rw [Bool.and_eq_true]
    exact ⟨decide_eq_true hb, by simpa using hs⟩
end
end K30

/-! AG30 -/
set_option maxRecDepth 100000
set_option maxHeartbeats 4000000
namespace K30
open G
variable {W : Nat}
section
variable {M : Store} {n : Nat}
/-- .. over a list of the store that stays -/
theorem lcH_pairs {α β : Type} {f : D → Store → Res (Option D)} {g : α → D} (k : β → D) (I : Store → Prop) (p : α → β → Prop) {l : List α} {j W : Nat} {M : Store} (hj : ∀ M, I M → M[j]? = some (.lst (l.map g))) (h : ∀ a ∈ l, ∀ M, I M → ∃ b M', f (g a) M = .ok (some (k b)) M' ∧ I M' ∧ p a b) (hI : I M) (hb : l.length ≤ big) (hW : l.length < W) :
    ∃ (ps : List (α × β)) (M' : Store), lcW f W (.hot j) M = .ok (ps.map fun q => k q.2) M' ∧ I M' ∧ ps.map Prod.fst = l ∧ ∀ q ∈ ps, p q.1 q.2 := by
  have key : ∀ (m i w : Nat) (acc : List D) (M : Store), i + m = l.length → m < w → I M → acc.length = i → ∃ (ps : List (α × β)) (M' : Store), lcH j f w i acc M = .ok (acc ++ ps.map fun q => k q.2) M' ∧ I M' ∧ ps.map Prod.fst = l.drop i ∧ ∀ q ∈ ps, p q.1 q.2 := by
    intro m
    induction m with
    | zero =>
      intro i w acc M hi hw hI ha
      obtain ⟨w, rfl⟩ : ∃ v, w = v + 1 := ⟨w - 1, by omega⟩
      have e : i = l.length := by omega
      subst e
      exact ⟨[], M, by simp [lcH, hj M hI], hI, by simp, by simp⟩
    | succ m ih =>
      intro i w acc M hi hw hI ha
      obtain ⟨w, rfl⟩ : ∃ v, w = v + 1 := ⟨w - 1, by omega⟩
      have hlt : i < l.length := by omega
      have hg : (l.map g)[i]? = some (g l[i]) := by simp [hlt]
      obtain ⟨b, M', e, i', pb⟩ := h _ (List.getElem_mem hlt) M hI
      obtain ⟨ps, M2, e2, i2, hl, hp⟩ := ih (i + 1) w (acc ++ [k b]) M' (by omega) (by omega) i' (by simp [ha])
      refine ⟨(l[i], b) :: ps, M2, ?_, i2, by rw [List.map_cons, hl, List.drop_eq_getElem_cons hlt], ?_⟩
      · rw [lcH]
        simp only [hj M hI, hg, e, bind_ok]
        rw [if_pos (by omega), e2]
        simp
      · intro q hq
        rcases List.mem_cons.mp hq with rfl | hq
        · exact pb
        · exact hp q hq
  simpa using key l.length 0 W [] M (by omega) hW hI rfl

/-- nothing in the store names a place -/
def Cl (G : Store) : Prop := ∀ k, G.all (underO k) = true
theorem Cl.snoc {G : Store} {xs : List D} (h : Cl G) (hx : ∀ k, underDs k xs = true) : Cl (G ++ [.lst xs]) := fun k => by
  rw [List.all_append, h k]
  simp [underO, hx]
def cnd (bells b : Nat) (p : Pc) : Bool := decide (p.d = (b : Int) + 1) || (decide ((bells : Int) < p.d) && decide (b = bells))
def zpB (lot : List Pc) (bells b : Nat) : List (Pc × Nat) := lot.zipIdx.filter fun q => cnd bells b q.1
theorem zpB_fst (lot : List Pc) (bells b : Nat) : (zpB lot bells b).map (·.1) = lot.filter (cnd bells b) := by
  unfold zpB
  show List.map Prod.fst (List.filter (cnd bells b ∘ Prod.fst) lot.zipIdx) = _
  rw [← List.filter_map]
  congr 1
  refine List.ext_getElem (by simp) fun i h1 h2 => ?_
  simp
theorem part_loop {lot : List Pc} {bells b : Nat} {N : Store} {a0 a1 a2 a3 a4 a6 a7 a8 a9 a10 : Option D} (hl : lot.length ≤ 1000) (h2 : a2 = some (.int bells)) (h4 : a4 = some (.int b)) :
    ∃ r8 r9, forL (foT P W (callF P W n) (.t [8, 9]) b21_2) (pl lot) [a0, a1, a2, a3, a4, some (.ptr N.length), a6, a7, a8, a9, a10] (N ++ [.lst []]) = some (.nx [a0, a1, a2, a3, a4, some (.ptr N.length), a6, a7, r8, r9, a10], N ++ [.lst (pl (lot.filter (cnd bells b)))]) := by
  subst h2 h4
  have key := forL_inv (l := lot) (g := Pc.D) (f := foT P W (callF P W n) (.t [8, 9]) b21_2) (fun i ρ M' => M' = N ++ [.lst (pl ((lot.take i).filter (cnd bells b)))] ∧ ∃ r8 r9, ρ = [a0, a1, some (.int bells), a3, some (.int b), some (.ptr N.length), a6, a7, r8, r9, a10]) (ρ := [a0, a1, some (.int bells), a3, some (.int b), some (.ptr N.length), a6, a7, a8, a9, a10]) (M := N ++ [.lst []]) ⟨by simp, _, _, rfl⟩ ?_
  · obtain ⟨ρ', M', e, rfl, r8, r9, rfl⟩ := key
    rw [List.take_length] at e
    exact ⟨_, _, e⟩
  · rintro i p ρ M' hp ⟨rfl, r8, r9, rfl⟩
    have hlt := (List.getElem?_eq_some_iff.mp hp).1
    have hg := (List.getElem?_eq_some_iff.mp hp).2
    have hbig : (pl ((lot.take i).filter (cnd bells b))).length < big := by
      have := List.length_filter_le (cnd bells b) (lot.take i)
      simp at this
      simp [big, PySem.sizeLine]; omega
    have ht : (lot.take (i + 1)).filter (cnd bells b) = (lot.take i).filter (cnd bells b) ++ if cnd bells b p = true then [p] else [] := by
      rw [List.take_succ_eq_append_getElem hlt, hg, List.filter_append]
      congr 1
      cases h : cnd bells b p <;> simp [List.filter, h]
    refine ⟨[a0, a1, some (.int bells), a3, some (.int b), some (.ptr N.length), a6, a7, some (.tup (il p.x)), some (.int p.d), a10], N ++ [.lst (pl ((lot.take (i + 1)).filter (cnd bells b)))], ?_, rfl, _, _, rfl⟩
    rw [ht]
    generalize (lot.take i).filter (cnd bells b) = L at *
    have hpl : pl (L ++ [p]) = pl L ++ [.tup [.tup (il p.x), .int p.d]] := by simp [Pc.D]
    by_cases c1 : p.d = (b : Int) + 1
    · have : cnd bells b p = true := by unfold cnd; simp [c1]
      rw [if_pos this, hpl]
      have hb : (p.d == (b : Int) + 1) = true := by simpa using c1
      generalize pl L = L2 at *
      simp [foT_app, b21_2, pc_D, bindG_t, hb, hbig]
    · have hb : (p.d == (b : Int) + 1) = false := by simpa using c1
      by_cases c2 : (bells : Int) < p.d
      · by_cases c3 : b = bells
        · have : cnd bells b p = true := by unfold cnd; simp [c2, c3]
          rw [if_pos this, hpl]
          subst c3
          generalize pl L = L2 at *
          simp [foT_app, b21_2, pc_D, bindG_t, hb, c2, hbig]
        · have : ¬ cnd bells b p = true := by unfold cnd; simp [c1, c3]
          rw [if_neg this, List.append_nil]
          have hb3 : ((b : Int) == (bells : Int)) = false := by rw [beq_eq_false_iff_ne]; omega
          generalize pl L = L2 at *
          simp [foT_app, b21_2, pc_D, bindG_t, hb, c2, hb3]
      · have : ¬ cnd bells b p = true := by unfold cnd; simp [c1, c2]
        rw [if_neg this, List.append_nil]
        generalize pl L = L2 at *
        simp [foT_app, b21_2, pc_D, bindG_t, hb, c2]
end
end K30

/-! AH30 -/
set_option maxRecDepth 100000
set_option maxHeartbeats 4000000
namespace K30
open G
variable {W : Nat}
section
variable {M : Store} {n : Nat}
/-- a plain letter: a hand, or a word -/
def PT (a : Lt) : Prop := VT a ∧ a ≠ .b
theorem extra_loop {p : Int × Int × Int} {R : Store} {ls : List Lt} {m : Nat} {a1 a2 a3 a4 a5 a7 a8 a9 a10 : Option D} (hm : m < 3) (hls : ls.length ≤ 1000) :
    ∃ p' es r7, forL (foT P W (callF P W (n + 1)) (.n 7) b21_1) ((List.range m).map fun (i : Nat) => D.int (i : Int)) [some (.ptr 0), a1, a2, a3, a4, a5, some (.ptr (R.length + 1)), a7, a8, a9, a10] (pu p :: (R ++ [.lst (lt ls)])) = some (.nx [some (.ptr 0), a1, a2, a3, a4, a5, some (.ptr (R.length + 1)), r7, a8, a9, a10], pu p' :: (R ++ [.lst (lt (ls ++ es))])) ∧ es.length = m ∧ ∀ a ∈ es, PT a := by
  have key := forL_inv (l := List.range m) (g := fun (i : Nat) => D.int (i : Int)) (f := foT P W (callF P W (n + 1)) (.n 7) b21_1) (fun i ρ M' => ∃ p es r7, M' = pu p :: (R ++ [.lst (lt (ls ++ es))]) ∧ es.length = i ∧ (∀ a ∈ es, PT a) ∧ ρ = [some (.ptr 0), a1, a2, a3, a4, a5, some (.ptr (R.length + 1)), r7, a8, a9, a10]) (ρ := [some (.ptr 0), a1, a2, a3, a4, a5, some (.ptr (R.length + 1)), a7, a8, a9, a10]) (M := pu p :: (R ++ [.lst (lt ls)])) ⟨p, [], _, by simp, rfl, by simp, rfl⟩ ?_
  · obtain ⟨ρ', M', e, p', es, r7, rfl, hl, hp, rfl⟩ := key
    exact ⟨p', es, r7, e, by simpa using hl, hp⟩
  · rintro _ i ρ M' hi ⟨p, es, r7, rfl, hl, hp, rfl⟩
    obtain ⟨hi, rfl⟩ := range_get hi
    have hbig : (lt (ls ++ es)).length < big := by simp [big, PySem.sizeLine]; omega
    have fin : ∀ (x : Lt) (p3 : Int × Int × Int), PT x → foT P W (callF P W (n + 1)) (.n 7) b21_1 (.int (i : Int)) [some (.ptr 0), a1, a2, a3, a4, a5, some (.ptr (R.length + 1)), r7, a8, a9, a10] (pu p :: (R ++ [.lst (lt (ls ++ es))])) = some (.nx [some (.ptr 0), a1, a2, a3, a4, a5, some (.ptr (R.length + 1)), some (.int (i : Int)), a8, a9, a10], pu p3 :: (R ++ [.lst (lt (ls ++ es) ++ [x.D])])) →
        ∃ ρ' M', foT P W (callF P W (n + 1)) (.n 7) b21_1 (.int (i : Int)) [some (.ptr 0), a1, a2, a3, a4, a5, some (.ptr (R.length + 1)), r7, a8, a9, a10] (pu p :: (R ++ [.lst (lt (ls ++ es))])) = some (.nx ρ', M') ∧ ∃ p es r7, M' = pu p :: (R ++ [.lst (lt (ls ++ es))]) ∧ es.length = i + 1 ∧ (∀ a ∈ es, PT a) ∧ ρ' = [some (.ptr 0), a1, a2, a3, a4, a5, some (.ptr (R.length + 1)), r7, a8, a9, a10] := by
      intro x p3 hx e
      refine ⟨_, _, e, p3, es ++ [x], _, by simp, by simp [hl], fun y hy => ?_, rfl⟩
      rcases List.mem_append.mp hy with hy | hy
      · exact hp y hy
      · simp at hy; subst hy; exact hx
    generalize lt (ls ++ es) = L at *
    obtain ⟨k, p2, hk, e2⟩ := drawZ (W := W) (n := n) p 2 (by omega) (by omega) (R ++ [.lst L])
    by_cases h0 : k = 0
    · subst h0
      obtain ⟨v, p3, hv, e3⟩ := drawZ (W := W) (n := n) p2 8 (by omega) (by omega) (R ++ [.lst L])
      refine fin (.h (1 + v)) p3 ⟨⟨by omega, by omega⟩, by simp⟩ ?_
      simp [foT_app, b21_1, e2, e3, st0, hbig, Lt.D]
    · have hk0 : ((k : Int) == 0) = false := by rw [beq_eq_false_iff_ne]; omega
      obtain ⟨v, p3, hv, e3⟩ := drawZ (W := W) (n := n) p2 9 (by omega) (by omega) (R ++ [.lst L])
      refine fin (.w v) p3 ⟨⟨by omega, by omega⟩, by simp⟩ ?_
      simp [foT_app, b21_1, e2, e3, h0, st0, hbig, Lt.D]
theorem hands_lc {p : Int × Int × Int} {R : Store} {zp : List (Pc × Nat)} {a1 a2 a3 a4 a6 a7 a8 a9 a10 : Option D} (hz : zp.length ≤ 1000) (hv : ∀ q ∈ zp, VP q.1) (hW : 100000 < W) :
    ∃ (ps : List ((Pc × Nat) × Lt)) (p' : Int × Int × Int), lcW (lcT P W (callF P W (n + 1)) [some (.ptr 0), a1, a2, a3, a4, some (.ptr (R.length + 1)), a6, a7, a8, a9, a10] (.n 10) .nil (.tup (.cons (.str "hand") (.cons (.ix (.ix (.v 10) (.int 0)) (.call 17 (.cons (.v 0) (.cons (.bi .len (.cons (.ix (.v 10) (.int 0)) .nil)) .nil)))) .nil)))) W (.hot (R.length + 1)) (pu p :: (R ++ [.lst (pl (zp.map (·.1)))])) = .ok (ps.map fun q => q.2.D) (pu p' :: (R ++ [.lst (pl (zp.map (·.1)))])) ∧ ps.map Prod.fst = zp ∧ ∀ q ∈ ps, ∃ s, q.2 = .h s ∧ s ∈ q.1.1.x := by
  have hpe : pl (zp.map (·.1)) = zp.map fun q => q.1.D := by simp
  rw [hpe]
  obtain ⟨ps, M', e, ⟨p', rfl⟩, h1, h2⟩ := lcH_pairs (f := lcT P W (callF P W (n + 1)) [some (.ptr 0), a1, a2, a3, a4, some (.ptr (R.length + 1)), a6, a7, a8, a9, a10] (.n 10) .nil (.tup (.cons (.str "hand") (.cons (.ix (.ix (.v 10) (.int 0)) (.call 17 (.cons (.v 0) (.cons (.bi .len (.cons (.ix (.v 10) (.int 0)) .nil)) .nil)))) .nil)))) (g := fun q : Pc × Nat => q.1.D) Lt.D (fun N => ∃ p, N = pu p :: (R ++ [.lst (zp.map fun q => q.1.D)])) (fun q y => ∃ s, y = .h s ∧ s ∈ q.1.x) (l := zp) (j := R.length + 1) (W := W) (M := pu p :: (R ++ [.lst (zp.map fun q => q.1.D)])) (by rintro N ⟨p, rfl⟩; simp) (by
    rintro ⟨q, i⟩ hq N ⟨p, rfl⟩
    have hvq := hv _ hq
    have hlen : q.x.length ≤ 8 := hvq.len
    have hne : 0 < q.x.length := List.length_pos_iff.mpr hvq.ne
    obtain ⟨v, p', hv2, e⟩ := drawN (W := W) (n := n) p q.x.length (by omega) (by omega) (R ++ [.lst (zp.map fun q => q.1.D)])
    have hg : q.x[v]? = some q.x[v] := by simp [hv2]
    have ha := il_get hg
    generalize (zp.map fun q => q.1.D) = L at *
    refine ⟨.h q.x[v], _, ?_, ⟨p', rfl⟩, _, rfl, List.getElem_mem hv2⟩
    simp [lcT_app, gslots, wipeR, pc_D, at0, e, ha, Lt.D, Res.noerr]) ⟨p, rfl⟩ (by simp [big, PySem.sizeLine]; omega) (by omega)
  exact ⟨ps, p', e, h1, h2⟩
end
end K30

/-! AI30 -/
set_option maxRecDepth 100000
set_option maxHeartbeats 4000000
namespace K30
open G
variable {W : Nat}
section
variable {M : Store} {n : Nat}
def tl (bells b : Nat) : List Lt := if b < bells then [.b] else []
/-- what one bell adds: letters with the pieces that get them -/
structure Adds (lot : List Pc) (bells b : Nat) (zs : List (Lt × Option Nat)) : Prop where
  lab : (zs.filterMap (·.2)).Perm ((zpB lot bells b).map (·.2))
  gd : ∀ (k i : Nat) (a : Lt), zs[k]? = some (a, some i) → ∃ p s, lot[i]? = some p ∧ a = .h s ∧ s ∈ p.x
  pt : ∀ q ∈ zs, PT q.1
  len : zs.length ≤ (zpB lot bells b).length + 2
theorem ended_turn {lot : List Pc} {bells b : Nat} {c : List Lt} {p : Int × Int × Int} {G : Store} {a4 a5 a6 a7 a8 a9 a10 : Option D} (hl : lot.length ≤ 1000) (hv : ∀ q ∈ lot, VP q) (hc : c.length ≤ 10000) (hG : Cl G) (hW : 100000 < W) :
    ∃ p' G' zs r5 r6 r7 r8 r9 r10, Cl G' ∧ Adds lot bells b zs ∧ foT P W (callF P W (n + 2)) (.n 4) b21_3 (.int (b : Int)) [some (.ptr 0), some (.lst (pl lot)), some (.int bells), some (.lst (lt c)), a4, a5, a6, a7, a8, a9, a10] (pu p :: G) = some (.nx [some (.ptr 0), some (.lst (pl lot)), some (.int bells), some (.lst (lt (c ++ zs.map (·.1) ++ tl bells b))), some (.int (b : Int)), r5, r6, r7, r8, r9, r10], pu p' :: G') := by
  obtain ⟨r8, r9, e1⟩ := part_loop (W := W) (n := n + 2) (lot := lot) (bells := bells) (b := b) (N := pu p :: G) (a0 := some (.ptr 0)) (a1 := some (.lst (pl lot))) (a2 := some (.int bells)) (a3 := some (.lst (lt c))) (a4 := some (.int b)) (a6 := a6) (a7 := a7) (a8 := a8) (a9 := a9) (a10 := a10) hl rfl rfl
  have hzl : (zpB lot bells b).length ≤ 1000 := by
    have := List.length_filter_le (fun q : Pc × Nat => cnd bells b q.1) lot.zipIdx
    simp at this
    unfold zpB; omega
  have hzv : ∀ q ∈ zpB lot bells b, VP q.1 := fun q hq => hv _ (List.fst_mem_of_mem_zipIdx (List.mem_filter.mp hq).1)
  obtain ⟨ps, p1, e2, h1, h2⟩ := hands_lc (W := W) (n := n + 1) (p := p) (R := G) (zp := zpB lot bells b) (a1 := some (.lst (pl lot))) (a2 := some (.int bells)) (a3 := some (.lst (lt c))) (a4 := some (.int b)) (a6 := a6) (a7 := a7) (a8 := r8) (a9 := r9) (a10 := a10) hzl hzv hW
  rw [zpB_fst] at e2
  have hpsl : ps.length = (zpB lot bells b).length := by rw [← h1]; simp
  have e3 : (ps.map fun q => q.2.D) = lt (ps.map Prod.snd) := by simp
  rw [e3] at e2
  obtain ⟨m, p2, hm, e4⟩ := drawZ (W := W) (n := n + 1) p1 3 (by omega) (by omega) (G ++ [.lst (pl (lot.filter (cnd bells b))), .lst (lt (ps.map Prod.snd))])
  obtain ⟨p3, es, r7, e5, h3, h4⟩ := extra_loop (W := W) (n := n + 1) (p := p2) (R := G ++ [.lst (pl (lot.filter (cnd bells b)))]) (ls := ps.map Prod.snd) (m := m) (a1 := some (.lst (pl lot))) (a2 := some (.int bells)) (a3 := some (.lst (lt c))) (a4 := some (.int b)) (a5 := some (.ptr (G.length + 1))) (a7 := a7) (a8 := r8) (a9 := r9) (a10 := a10) (by omega) (by simp; omega)
  let zl : List (Lt × Option Nat) := (ps.map fun q => (q.2, some q.1.2)) ++ es.map fun a => (a, none)
  have hzD : lt (ps.map Prod.snd ++ es) = zl.map fun q => q.1.D := by
    show lt (ps.map Prod.snd ++ es) = ((ps.map fun q => (q.2, some q.1.2)) ++ es.map fun a => (a, (none : Option Nat))).map fun q => q.1.D
    simp
    rfl
  have hzll : zl.length ≤ (zpB lot bells b).length + 2 := by
    show ((ps.map fun q => (q.2, some q.1.2)) ++ es.map fun a => (a, (none : Option Nat))).length ≤ _
    simp; omega
  have hG2 : Cl (G ++ [.lst (pl (lot.filter (cnd bells b)))]) := hG.snoc fun k => underDs_pl
  have hG3 : Cl (G ++ [.lst (pl (lot.filter (cnd bells b)))] ++ [.lst (lt (ps.map Prod.snd ++ es))]) := hG2.snoc fun k => underDs_lt
  obtain ⟨ys, p4, hp, e6⟩ := law_mix (W := W) (n := n) p3 (.ptr (G.length + 1 + 1)) (lt (ps.map Prod.snd ++ es)) (G ++ [.lst (pl (lot.filter (cnd bells b)))] ++ [.lst (lt (ps.map Prod.snd ++ es))]) (.inr ⟨_, rfl, by
    rw [← List.cons_append, List.getElem?_append_right (by simp)]; simp⟩) (by simp; omega) (hG3 _) underDs_lt
  rw [hzD] at hp
  obtain ⟨zs, hzp, rfl⟩ := perm_lift hp zl rfl
  refine ⟨p4, G ++ [.lst (pl (lot.filter (cnd bells b)))] ++ [.lst (lt (ps.map Prod.snd ++ es))], zs, some (.ptr (G.length + 1)), some (.ptr (G.length + 1 + 1)), r7, r8, r9, a10, hG3, ⟨?_, ?_, ?_, ?_⟩, ?_⟩
  · have hq := hzp.filterMap (·.2)
    have : zl.filterMap (·.2) = (zpB lot bells b).map (·.2) := by
      show ((ps.map fun q => (q.2, some q.1.2)) ++ es.map fun a => (a, (none : Option Nat))).filterMap (·.2) = _
      rw [List.filterMap_append, List.filterMap_map, List.filterMap_map, ← h1, List.map_map]
      have q1 : ((fun x : Lt × Option Nat => x.2) ∘ fun q : (Pc × Nat) × Lt => (q.2, some q.1.2)) = fun q => some q.1.2 := rfl
      have q2 : ((fun x : Lt × Option Nat => x.2) ∘ fun a : Lt => (a, (none : Option Nat))) = fun _ => none := rfl
      rw [q1, q2]
      have q3 : es.filterMap (fun _ => (none : Option Nat)) = [] := by simp
      rw [q3, List.append_nil]
      rw [show (fun q : (Pc × Nat) × Lt => some q.1.2) = some ∘ (Prod.snd ∘ Prod.fst) from rfl, List.filterMap_eq_map]
    rw [this] at hq
    exact hq
  · intro k i a hk
    have hm := hzp.mem_iff.mp (List.mem_of_getElem? hk)
    rcases List.mem_append.mp hm with hm | hm
    · obtain ⟨q, hq, e⟩ := List.mem_map.mp hm
      cases e
      obtain ⟨s, es, hs⟩ := h2 q hq
      have hz : q.1 ∈ zpB lot bells b := by rw [← h1]; exact List.mem_map_of_mem hq
      have := List.mem_zipIdx_iff_getElem?.mp (List.mem_filter.mp hz).1
      exact ⟨_, s, this, es, hs⟩
    · obtain ⟨q, hq, e⟩ := List.mem_map.mp hm
      cases e
  · intro q hq
    have hm := hzp.mem_iff.mp hq
    rcases List.mem_append.mp hm with hm | hm
    · obtain ⟨q', hq', rfl⟩ := List.mem_map.mp hm
      obtain ⟨s, es, hs⟩ := h2 q' hq'
      have hz : q'.1 ∈ zpB lot bells b := by rw [← h1]; exact List.mem_map_of_mem hq'
      have := (hzv _ hz).rng s hs
      show PT q'.2
      rw [es]
      exact ⟨this, by simp⟩
    · obtain ⟨q', hq', rfl⟩ := List.mem_map.mp hm
      exact h4 q' hq'
  · rw [hzp.length_eq]; exact hzll
  · have hzs : (zs.map fun q => q.1.D) = lt (zs.map (·.1)) := by simp
    rw [hzs] at e6
    have hzl2 : (zs.map (·.1)).length ≤ 1002 := by rw [List.length_map, hzp.length_eq]; omega
    have a1 : ∀ M : Store, binop .add (.lst (lt c)) (.lst (lt (zs.map (·.1)))) M = .ok (.lst (lt (c ++ zs.map (·.1)))) M := fun M => by
      rw [add_ll (by simp [big, PySem.sizeLine]; simp at hzl2; omega)]; simp
    have a2 : ∀ M : Store, binop .add (.lst (lt (c ++ zs.map (·.1)))) (.lst (lt (tl bells b))) M = .ok (.lst (lt (c ++ zs.map (·.1) ++ tl bells b))) M := fun M => by
      have : (tl bells b).length ≤ 1 := by unfold tl; split <;> simp
      rw [add_ll (by simp [big, PySem.sizeLine]; simp at hzl2; omega)]; simp
    have hwk : walkOf (pu p :: (G ++ [.lst (pl (lot.filter (cnd bells b)))])) (.ptr (G.length + 1)) = some (.hot (G.length + 1)) := walk_ptr (xs := pl (lot.filter (cnd bells b))) (by simp)
    simp only [List.cons_append, List.append_assoc, List.nil_append, List.singleton_append, List.length_cons, List.length_append, List.length_nil, Nat.zero_add] at e1 e4 e5 e6 ⊢
    generalize pl (lot.filter (cnd bells b)) = PL at *
    generalize lt (ps.map Prod.snd ++ es) = L2 at *
    generalize lt (ps.map Prod.snd) = L1 at *
    generalize hC2 : lt (c ++ zs.map (·.1) ++ tl bells b) = C2 at *
    generalize lt (c ++ zs.map (·.1)) = C1 at *
    generalize lt (zs.map (·.1)) = ZS at *
    simp only [foT_app, b21_3, rSs_cons, rSs_nil, bindG_n, oO_some, List.set_cons_succ, List.set_cons_zero, rS_asg, rE_lst, rA_nil, zbind_ok, List.length_nil, big_0, if_true, newL_t, zwith_ok, zthen_nx, rS_fo, rI_val, rE_v, List.getElem?_cons_succ, List.getElem?_cons_zero, onV_some, walk_lst, onO_some, foW_items, List.length_cons, List.cons_append]
    rw [e1]
    simp only [zthen_nx, rSs_cons, rS_asg, rE_lc, rI_val, rE_v, List.getElem?_cons_succ, List.getElem?_cons_zero, onV_some, zbind_ok, hwk, onO_some, e2, newL_t, zwith_ok, List.set_cons_succ, List.set_cons_zero, List.length_cons, List.length_append, List.cons_append, List.append_assoc, List.length_nil, Nat.zero_add, List.nil_append]
    have hN : n + 1 + 1 = n + 2 := rfl
    rw [hN] at e4 e5
    have hr := fun (M : Store) => rngI_nat (M := M) (show m ≤ 16777216 by omega)
    simp only [rS_fo, rI_rng1, rE_call, rA_cons, rA_nil, rE_v, rE_int, List.getElem?_cons_succ, List.getElem?_cons_zero, onV_some, zbind_ok, e4, onI_int, hr, zwith_ok, foW_items]
    rw [e5]
    have hlt : cmpop .lt (.int (b : Int)) (.int (bells : Int)) = fun M => .ok (.bl (decide ((b : Int) < (bells : Int)))) M := rfl
    by_cases hb : b < bells
    · have hb2 : (b : Int) < (bells : Int) := by omega
      have htl : lt (tl bells b) = [.tup [.str "bell"]] := by unfold tl; rw [if_pos hb]; rfl
      rw [htl] at a2
      simp [e6, a1, hb, a2]
      rw [← hC2]; simp
    · have hb2 : ¬ (b : Int) < (bells : Int) := by omega
      have htl : lt (tl bells b) = [] := by unfold tl; rw [if_neg hb]; rfl
      rw [htl] at a2
      simp [e6, a1, hb, a2]
      rw [← hC2]; simp
theorem bells_app {c d : List Lt} : bells (c ++ d) = bells c + bells d := by
  unfold bells; rw [List.filter_append, List.length_append]
theorem bells_zero {c : List Lt} (h : ∀ a ∈ c, a ≠ .b) : bells c = 0 := by
  unfold bells
  rw [List.length_eq_zero_iff, List.filter_eq_nil_iff]
  intro a ha
  simpa using h a ha
/-- the course up to a bell, its letters given out -/
structure Upto (lot : List Pc) (bs b : Nat) (zs : List (Lt × Option Nat)) : Prop where
  gv : Given lot zs
  lab : ∀ i, i ∈ zs.filterMap (·.2) ↔ ∃ p, lot[i]? = some p ∧ ∃ b', b' < b ∧ cnd bs b' p = true
  bl : bells (zs.map (·.1)) = min b bs
  vt : ∀ q ∈ zs, VT q.1
  len : zs.length ≤ (zs.filterMap (·.2)).length + 3 * b
theorem zpB_mem {lot : List Pc} {bs b i : Nat} : i ∈ (zpB lot bs b).map (·.2) ↔ ∃ p, lot[i]? = some p ∧ cnd bs b p = true := by
  unfold zpB
  constructor
  · intro h
    obtain ⟨⟨p, j⟩, hm, rfl⟩ := List.mem_map.mp h
    obtain ⟨h1, h2⟩ := List.mem_filter.mp hm
    exact ⟨p, List.mem_zipIdx_iff_getElem?.mp h1, h2⟩
  · rintro ⟨p, h1, h2⟩
    exact List.mem_map.mpr ⟨(p, i), List.mem_filter.mpr ⟨List.mem_zipIdx_iff_getElem?.mpr h1, h2⟩, rfl⟩
theorem cnd_one {bs b b' : Nat} {p : Pc} (hb : b ≤ bs) (hb' : b' ≤ bs) (h1 : cnd bs b p = true) (h2 : cnd bs b' p = true) : b = b' := by
  unfold cnd at h1 h2
  simp only [Bool.or_eq_true, Bool.and_eq_true, decide_eq_true_eq] at h1 h2
  omega
theorem cnd_lt {bs b : Nat} {p : Pc} (h : cnd bs b p = true) : (b : Int) < p.d := by
  unfold cnd at h
  simp only [Bool.or_eq_true, Bool.and_eq_true, decide_eq_true_eq] at h
  omega
theorem zpB_nodup (lot : List Pc) (bs b : Nat) : ((zpB lot bs b).map (·.2)).Nodup := by
  have h : (lot.zipIdx.map (·.2)).Nodup := by
    have : lot.zipIdx.map (·.2) = List.range lot.length := by
      refine List.ext_getElem (by simp) fun i h1 h2 => ?_
      simp
    rw [this]; exact List.nodup_range
  exact h.sublist (List.Sublist.map _ List.filter_sublist)
theorem Upto.step {lot : List Pc} {bs b : Nat} {zs ad : List (Lt × Option Nat)} (h : Upto lot bs b zs) (hb : b ≤ bs) (ha : Adds lot bs b ad) : Upto lot bs (b + 1) (zs ++ ad ++ (tl bs b).map fun a => (a, none)) := by
  have hfm : (zs ++ ad ++ (tl bs b).map fun a => (a, (none : Option Nat))).filterMap (·.2) = zs.filterMap (·.2) ++ ad.filterMap (·.2) := by
    rw [List.filterMap_append, List.filterMap_append]
    have : ((tl bs b).map fun a => (a, (none : Option Nat))).filterMap (·.2) = [] := by unfold tl; split <;> simp
    rw [this, List.append_nil]
  have hmf : (zs ++ ad ++ (tl bs b).map fun a => (a, (none : Option Nat))).map (·.1) = zs.map (·.1) ++ ad.map (·.1) ++ tl bs b := by simp [Function.comp_def]
  have hab : ∀ a ∈ ad.map (·.1), a ≠ .b := by
    intro a hm
    obtain ⟨q, hq, rfl⟩ := List.mem_map.mp hm
    exact (ha.pt q hq).2
  have hnd : (ad.filterMap (·.2)).Nodup := ha.lab.symm.nodup (zpB_nodup lot bs b)
  have hmem : ∀ i, i ∈ ad.filterMap (·.2) ↔ ∃ p, lot[i]? = some p ∧ cnd bs b p = true := fun i => by rw [ha.lab.mem_iff, zpB_mem]
  refine ⟨⟨?_, ?_⟩, ?_, ?_, ?_, ?_⟩
  · rw [hfm, List.nodup_append]
    refine ⟨h.gv.1, hnd, fun i hi j hj => ?_⟩
    rintro rfl
    obtain ⟨p, e1, b', hb', c1⟩ := (h.lab i).mp hi
    obtain ⟨p', e2, c2⟩ := (hmem i).mp hj
    rw [e1] at e2; cases e2
    have := cnd_one (by omega) hb c1 c2
    omega
  · intro k i a hk
    rw [hmf]
    by_cases h1 : k < zs.length
    · rw [List.append_assoc, List.getElem?_append_left h1] at hk
      obtain ⟨p, s, e1, e2, e3, e4⟩ := h.gv.2 k i a hk
      refine ⟨p, s, e1, e2, e3, ?_⟩
      rw [List.append_assoc, List.take_append_of_le_length (by simp; omega)]
      exact e4
    · rw [List.append_assoc, List.getElem?_append_right (by omega)] at hk
      by_cases h2 : k - zs.length < ad.length
      · rw [List.getElem?_append_left h2] at hk
        obtain ⟨p, s, e1, e2, e3⟩ := ha.gd _ _ _ hk
        refine ⟨p, s, e1, e2, e3, ?_⟩
        have hi : i ∈ ad.filterMap (·.2) := List.mem_filterMap.mpr ⟨_, List.mem_of_getElem? hk, rfl⟩
        obtain ⟨p', e1', c1⟩ := (hmem i).mp hi
        rw [e1] at e1'; cases e1'
        have hlt := cnd_lt c1
        have hk2 : k = (zs.map (·.1)).length + (k - zs.length) := by simp; omega
        rw [List.append_assoc, hk2, List.take_length_add_append, List.take_append_of_le_length (by simp; omega), bells_app, h.bl, bells_zero (fun a hm => hab a (List.mem_of_mem_take hm))]
        omega
      · rw [List.getElem?_append_right (by omega)] at hk
        obtain ⟨q, hq, e⟩ := List.mem_map.mp (List.mem_of_getElem? hk)
        cases e
  · intro i
    rw [hfm, List.mem_append, h.lab, hmem]
    constructor
    · rintro (⟨p, e, b', hb', c⟩ | ⟨p, e, c⟩)
      · exact ⟨p, e, b', by omega, c⟩
      · exact ⟨p, e, b, by omega, c⟩
    · rintro ⟨p, e, b', hb', c⟩
      by_cases hbb : b' = b
      · subst hbb; exact .inr ⟨p, e, c⟩
      · exact .inl ⟨p, e, b', by omega, c⟩
  · rw [hmf, bells_app, bells_app, h.bl, bells_zero hab]
    unfold tl
    split
    · show min b bs + 0 + 1 = min (b + 1) bs; omega
    · show min b bs + 0 + 0 = min (b + 1) bs; omega
  · intro q hq
    rcases List.mem_append.mp hq with hq | hq
    · rcases List.mem_append.mp hq with hq | hq
      · exact h.vt q hq
      · exact (ha.pt q hq).1
    · obtain ⟨a, hm, rfl⟩ := List.mem_map.mp hq
      unfold tl at hm
      split at hm
      · simp at hm; subst hm; trivial
      · cases hm
  · rw [hfm]
    have h1 := h.len
    have h2 := ha.len
    have h3 : (ad.filterMap (·.2)).length = (zpB lot bs b).length := by rw [ha.lab.length_eq]; simp
    have h4 : (tl bs b).length ≤ 1 := by unfold tl; split <;> simp
    simp only [List.length_append, List.length_map]
    omega
end
end K30

/-! AJ30 -/
set_option maxRecDepth 100000
set_option maxHeartbeats 4000000
namespace K30
open G
variable {W : Nat}
section
variable {M : Store} {n : Nat}
theorem law_ended (p : Int × Int × Int) {lot : List Pc} {bs : Nat} (hl : VL lot) (hbs : bs ≤ 4) (hW : 100000 < W) : ∃ c p', VC c ∧ c.length ≤ 25 ∧ Dealt (opts lot c) ∧ callF P W (n + 3) 21 [.ptr 0, .lst (pl lot), .int bs] [pu p] = .ok (.lst (lt c)) [pu p'] := by
  rw [callF_eq (k := f21) rfl rfl]
  have hll := hl.len
  have labl : ∀ {b zs}, Upto lot bs b zs → (zs.filterMap (·.2)).length ≤ lot.length := by
    intro b zs h
    have := List.Nodup.length_le_of_subset h.gv.1 (l₂ := List.range lot.length) (fun i hi => by
      obtain ⟨p, e, _⟩ := (h.lab i).mp hi
      exact List.mem_range.mpr (List.getElem?_eq_some_iff.mp e).1)
    simpa using this
  have key := forL_inv (l := List.range (bs + 1)) (g := fun (i : Nat) => D.int (i : Int)) (f := foT P W (callF P W (n + 2)) (.n 4) b21_3) (fun i ρ M' => ∃ p G zs, M' = pu p :: G ∧ Cl G ∧ Upto lot bs i zs ∧ ∃ a4 a5 a6 a7 a8 a9 a10, ρ = [some (.ptr 0), some (.lst (pl lot)), some (.int bs), some (.lst (lt (zs.map (·.1)))), a4, a5, a6, a7, a8, a9, a10]) (ρ := [some (.ptr 0), some (.lst (pl lot)), some (.int bs), some (.lst []), none, none, none, none, none, none, none]) (M := [pu p]) ⟨p, [], [], rfl, fun k => rfl, ⟨⟨by simp, fun k i a h => by simp at h⟩, fun i => ⟨fun h => (by cases h), fun ⟨_, _, b', hb', _⟩ => (by omega)⟩, by simp [bells], by simp, by simp⟩, _, _, _, _, _, _, _, rfl⟩ ?_
  · obtain ⟨ρ', M', e, p', G, zs, rfl, hG, hu, a4, a5, a6, a7, a8, a9, a10, rfl⟩ := key
    simp only [List.length_range] at hu
    have h1 := labl hu
    have h2 := hu.len
    have hln : zs.length ≤ 25 := by omega
    refine ⟨zs.map (·.1), p', ⟨by simp; omega, fun a ha => ?_⟩, by simpa using hln, deal_of hu.gv fun i hi => ?_, ?_⟩
    · obtain ⟨q, hq, rfl⟩ := List.mem_map.mp ha
      exact hu.vt q hq
    · have hg : lot[i]? = some lot[i] := by simp [hi]
      have hd := (hl.all _ (List.getElem_mem hi)).d1
      refine (hu.lab i).mpr ⟨_, hg, ?_⟩
      by_cases hb : lot[i].d ≤ bs
      · refine ⟨(lot[i].d - 1).toNat, by omega, ?_⟩
        unfold cnd
        simp only [Bool.or_eq_true, decide_eq_true_eq]
        left; omega
      · refine ⟨bs, by omega, ?_⟩
        unfold cnd
        simp only [Bool.or_eq_true, Bool.and_eq_true, decide_eq_true_eq]
        exact .inr ⟨by omega, trivial⟩
    · have hr := rngI_nat (M := [pu p]) (k := bs + 1) (by omega)
      simp only [Int.natCast_add, Int.natCast_one] at hr
      have hLT := underDs_lt (k := 1) (l := zs.map (·.1))
      generalize lt (zs.map (·.1)) = X at *
      simp [f21, b21, hr, e]
      exact finish_rt_cut2 (N := [pu p']) (R := G) rfl rfl (by simp only [underD]; exact hLT) (by simp [underO, underDs, underD])
  · rintro _ i ρ M' hi ⟨p, G, zs, rfl, hG, hu, a4, a5, a6, a7, a8, a9, a10, rfl⟩
    obtain ⟨hi, rfl⟩ := range_get hi
    have h1 := labl hu
    have h2 := hu.len
    obtain ⟨p', G', ad, r5, r6, r7, r8, r9, r10, hG', had, e⟩ := ended_turn (W := W) (n := n) (lot := lot) (bells := bs) (b := i) (c := zs.map (·.1)) (p := p) (G := G) (a4 := a4) (a5 := a5) (a6 := a6) (a7 := a7) (a8 := a8) (a9 := a9) (a10 := a10) (by omega) hl.all (by simp; omega) hG hW
    have hmf : (zs ++ ad ++ (tl bs i).map fun a => (a, (none : Option Nat))).map (·.1) = zs.map (·.1) ++ ad.map (·.1) ++ tl bs i := by simp [Function.comp_def]
    exact ⟨_, _, e, p', G', _, rfl, hG', hu.step (by omega) had, some (.int (i : Int)), r5, r6, r7, r8, r9, r10, by rw [hmf]⟩
def wrongs : List Lt := [.h0, .h 0, .h (-1), .hT, .b1, .w (-1), .w0, .bs, .st]
def wrB (a : Lt) : Bool := (numE a).isNone && (sklE a).isNone && !a.ok
theorem wrongs_all : ∀ a ∈ wrongs, numE a = none ∧ sklE a = none ∧ a.ok = false := by
  intro a ha
  simp [wrongs] at ha
  rcases ha with rfl | rfl | rfl | rfl | rfl | rfl | rfl | rfl | rfl <;> exact ⟨rfl, rfl, rfl⟩
theorem dropE_none' {lot : List Pc} {c : List Lt} (h0 : lot.length ≤ 10) (h4 : ∀ p ∈ lot, pskE p = none ∧ belE p = none) (h1 : ∀ a ∈ c, numE a = none) (h2 : ∀ a ∈ c, sklE a = none) (h3 : c.length ≤ 60) : dropE lot c = none := by
  have e1 : c.findSome? numE = none := List.findSome?_eq_none_iff.mpr h1
  have e2 : c.findSome? sklE = none := List.findSome?_eq_none_iff.mpr h2
  have e3 : lot.findSome? pskE = none := List.findSome?_eq_none_iff.mpr fun p hp => (h4 p hp).1
  have e4 : lot.findSome? belE = none := List.findSome?_eq_none_iff.mpr fun p hp => (h4 p hp).2
  unfold dropE
  rw [e1, e2, e3, e4, many_no (by omega), many_no (by omega)]; rfl
theorem VP.no {p : Pc} (h : VP p) : pskE p = none ∧ belE p = none :=
  ⟨List.findSome?_eq_none_iff.mpr fun s hs => many_no (by have := (h.rng s hs).2; omega), many_no (by have := h.d2; omega)⟩
theorem letE_at {c r : List Lt} {x : Lt} (h : ∀ a ∈ c, a.ok = true) (hx : x.ok = false) : letE (c ++ x :: r) = some (2, [.int (c.length : Nat)]) := by
  unfold letE
  have e : (c ++ x :: r).length = c.length + (r.length + 1) := by simp
  rw [e, List.range_add, List.findSome?_append]
  have e1 : (List.range c.length).findSome? (letE1 (c ++ x :: r)) = none := by
    rw [List.findSome?_eq_none_iff]
    intro i hi
    have hi := range_mem hi
    unfold letE1
    rw [List.getElem?_append_left hi]
    have hg : c[i]? = some c[i] := by simp [hi]
    rw [hg]
    simp [h _ (List.getElem_mem hi)]
  rw [e1, List.range_succ_eq_map]
  simp [letE1, hx]
def bad (lot : List Pc) : List Pc := lot ++ [⟨[], 1⟩]
theorem bad_no {lot : List Pc} (h : ∀ p ∈ lot, VP p) : ∀ p ∈ bad lot, pskE p = none ∧ belE p = none := by
  intro p hp
  rcases List.mem_append.mp hp with hp | hp
  · exact (h p hp).no
  · simp at hp; subst hp; exact ⟨rfl, rfl⟩
theorem bad_x {lot : List Pc} (h : VL lot) : ∀ p ∈ bad lot, p.x.length ≤ 100000 := by
  intro p hp
  rcases List.mem_append.mp hp with hp | hp
  · exact h.x p hp
  · simp at hp; subst hp; simp
/-- 61 letters that are too many -/
theorem dropE_letters {lot : List Pc} (h0 : lot.length ≤ 10) (h4 : ∀ p ∈ lot, pskE p = none ∧ belE p = none) : dropE lot (List.replicate 61 .b) = some (0, [.str "letters"]) := by
  have e1 : (List.replicate 61 Lt.b).findSome? numE = none := List.findSome?_eq_none_iff.mpr fun a ha => by rw [List.eq_of_mem_replicate ha]; rfl
  have e2 : (List.replicate 61 Lt.b).findSome? sklE = none := List.findSome?_eq_none_iff.mpr fun a ha => by rw [List.eq_of_mem_replicate ha]; rfl
  have e3 : lot.findSome? pskE = none := List.findSome?_eq_none_iff.mpr fun p hp => (h4 p hp).1
  have e4 : lot.findSome? belE = none := List.findSome?_eq_none_iff.mpr fun p hp => (h4 p hp).2
  unfold dropE
  rw [e1, e2, e3, e4, many_no (by omega)]; rfl
theorem dropE_skills {lot : List Pc} (h0 : lot.length ≤ 10) (h4 : ∀ p ∈ lot, pskE p = none ∧ belE p = none) : dropE lot (List.replicate 61 (.h 9)) = some (0, [.str "skills"]) := by
  have e1 : (List.replicate 61 (Lt.h 9)).findSome? numE = none := List.findSome?_eq_none_iff.mpr fun a ha => by rw [List.eq_of_mem_replicate ha]; rfl
  have e3 : lot.findSome? pskE = none := List.findSome?_eq_none_iff.mpr fun p hp => (h4 p hp).1
  unfold dropE
  rw [e1, e3, many_no (by omega)]; rfl
theorem dropE_number {lot : List Pc} : dropE lot (List.replicate 61 (.w 1000000001)) = some (0, [.str "number"]) := rfl
theorem hind_drop {lot : List Pc} {c : List Lt} {e : Er1} (h : dropE lot c = some e) : hindE lot c = some e := by unfold hindE; rw [h]; rfl
theorem hind_piece {lot : List Pc} {c : List Lt} {e : Er1} (h0 : dropE lot c = none) (h : pieceE lot = some e) : hindE lot c = some e := by unfold hindE; rw [h0, h]; rfl
theorem hind_let {lot : List Pc} {c : List Lt} {e : Er1} (h0 : dropE lot c = none) (h1 : pieceE lot = none) (h : letE c = some e) : hindE lot c = some e := by unfold hindE; rw [h0, h1, h]; rfl
def twos : List Pc := [⟨[3], 2⟩, ⟨[3, 5], 2⟩, ⟨[2, 4], 1⟩, ⟨[4, 6], 1⟩]
theorem twos_v : VL twos := by
  refine ⟨by simp [twos], fun p hp => ?_⟩
  simp [twos] at hp
  rcases hp with rfl | rfl | rfl | rfl <;> exact ⟨by simp, by simp, by simp, by simp, by simp⟩
theorem tw1 : twoE twos 3 0 1 = some (1, [.int 1]) := rfl
theorem tw2 : twoE twos 3 1 0 = some (1, [.int 0]) := rfl
theorem tw3 : twoE twos 4 2 2 = some (1, [.int 2]) := rfl
theorem tw4 : twoE twos 4 1 3 = some (1, [.int 1]) := rfl
theorem tw5 : twoE twos 4 2 4 = some (1, [.int 4]) := rfl
theorem tw6 : twoE twos 4 (-1) 9 = some (1, [.int (-1)]) := rfl
theorem tw7 : twoE twos 4 2 3 = none := rfl
theorem ne_p {s : PySem.Str} {i : Int} (h : PySem.PyData.strOk s = true) : cmpop .ne (.tup [.str s, .int i]) (.tup [.str s, .int i]) M = .ok (.bl false) M := ne_same (by simp [top_tup, okd, h])
theorem ne_q {s t : PySem.Str} (h : PySem.PyData.strOk s = true) (h' : PySem.PyData.strOk t = true) : cmpop .ne (.tup [.str s, .str t]) (.tup [.str s, .str t]) M = .ok (.bl false) M := ne_same (by simp [top_tup, okd, h, h'])
theorem sk1 : PySem.PyData.strOk "bad letter" = true := by decide +kernel
theorem sk2 : PySem.PyData.strOk "bad piece" = true := by decide +kernel
theorem sk3 : PySem.PyData.strOk "many" = true := by decide +kernel
theorem sk4 : PySem.PyData.strOk "letters" = true := by decide +kernel
theorem sk5 : PySem.PyData.strOk "skills" = true := by decide +kernel
theorem sk6 : PySem.PyData.strOk "number" = true := by decide +kernel
end
end K30

/-! AK30 -/
set_option maxRecDepth 100000
set_option maxHeartbeats 4000000
namespace K30
open G
variable {W : Nat}
section
variable {M : Store} {n : Nat}
theorem mul61 {x : D} {M : Store} : binop .mul (.lst [x]) (.int 61) M = .ok (.lst (List.replicate 61 x)) M := by
  rw [mul_li (by simp [big, PySem.sizeLine])]; rfl
theorem mul58 {x : D} {M : Store} : binop .mul (.lst [x]) (.int 58) M = .ok (.lst (List.replicate 58 x)) M := by
  rw [mul_li (by simp [big, PySem.sizeLine])]; rfl
theorem law_refused (p : Int × Int × Int) {lot : List Pc} {c : List Lt} (hl : VL lot) (hll : lot.length ≤ 6) (hc : VC c) (hcl : c.length ≤ 50) (hn : 11 ≤ n) (hW : 100000 < W) : ∃ p', callF P W (n + 7) 33 [.ptr 0, .lst (pl lot), .lst (lt c)] [pu p] = .ok (.bl true) [pu p'] := by
  rw [callF_eq (k := f33) rfl rfl]
  obtain ⟨at_, p1, hat, e1⟩ := drawZ (W := W) (n := n + 5) p (c.length + 1) (by omega) (by omega) []
  obtain ⟨k, p2, hk, e2⟩ := drawZ (W := W) (n := n + 5) p1 9 (by omega) (by omega) []
  have hN : n + 5 + 1 = n + 6 := rfl
  rw [hN] at e1 e2
  have hwl : wrongs.length = 9 := rfl
  have hkl : k < wrongs.length := by omega
  have hwg : wrongs[k]? = some wrongs[k] := by simp [hkl]
  obtain ⟨w1, w2, w3⟩ := wrongs_all wrongs[k] (List.getElem_mem hkl)
  have hwa := lt_get hwg
  generalize wrongs[k] = x at *
  have hcok : ∀ a ∈ c, a.ok = true := fun a ha => (hc.all a ha).ok
  -- the spoilt course
  let sp : List Lt := c.take at_ ++ x :: c.drop at_
  have hspm : ∀ a ∈ sp, a = x ∨ a ∈ c := fun a ha => by
    rcases List.mem_append.mp ha with ha | ha
    · exact .inr (List.mem_of_mem_take ha)
    · rcases List.mem_cons.mp ha with ha | ha
      · exact .inl ha
      · exact .inr (List.mem_of_mem_drop ha)
  have hspn : ∀ a ∈ sp, numE a = none := fun a ha => by
    rcases hspm a ha with rfl | ha
    · exact w1
    · exact (hc.all a ha).num
  have hsps : ∀ a ∈ sp, sklE a = none := fun a ha => by
    rcases hspm a ha with rfl | ha
    · exact w2
    · exact (hc.all a ha).skl
  have hspl : sp.length = c.length + 1 := by
    show (c.take at_ ++ x :: c.drop at_).length = _
    simp; omega
  have htl : (c.take at_).length = at_ := by simp; omega
  have hn1 := fun p hp => (hl.all p hp).no
  have g1 : hindE lot sp = some (2, [.int (at_ : Nat)]) := hind_let (dropE_none' (by omega) hn1 hspn hsps (by omega)) (pieceE_none hl.all) (by
    have := letE_at (c := c.take at_) (r := c.drop at_) (x := x) (fun a ha => hcok a (List.mem_of_mem_take ha)) w3
    rw [htl] at this; exact this)
  have g2 : hindE lot (sp ++ [.h 0]) = some (2, [.int (at_ : Nat)]) := hind_let (dropE_none' (by omega) hn1 (fun a ha => by
    rcases List.mem_append.mp ha with ha | ha
    · exact hspn a ha
    · simp at ha; subst ha; rfl) (fun a ha => by
    rcases List.mem_append.mp ha with ha | ha
    · exact hsps a ha
    · simp at ha; subst ha; rfl) (by simp; omega)) (pieceE_none hl.all) (by
    have := letE_at (c := c.take at_) (r := c.drop at_ ++ [.h 0]) (x := x) (fun a ha => hcok a (List.mem_of_mem_take ha)) w3
    rw [htl] at this
    show letE ((c.take at_ ++ x :: c.drop at_) ++ [.h 0]) = _
    simpa using this)
  have hbl : (bad lot).length = lot.length + 1 := by simp [bad]
  have g3 : hindE (bad lot) sp = some (1, [.int (lot.length : Nat)]) := hind_piece (dropE_none' (by omega) (bad_no hl.all) hspn hsps (by omega)) (pieceE_bad hl.all)
  have g4 : hindE (bad lot) (List.replicate 61 .b) = some (0, [.str "letters"]) := hind_drop (dropE_letters (by omega) (bad_no hl.all))
  have g5 : hindE lot (List.replicate 61 .b) = some (0, [.str "letters"]) := hind_drop (dropE_letters (by omega) hn1)
  have g6 : hindE (bad lot) (List.replicate 61 (.h 9)) = some (0, [.str "skills"]) := hind_drop (dropE_skills (by omega) (bad_no hl.all))
  have g7 : hindE lot (List.replicate 61 (.w 1000000001)) = some (0, [.str "number"]) := hind_drop dropE_number
  have tl1 := fun (M : Store) => told_err (W := W) (M := M) (n := n + 1) g1 (by omega) (by omega) (by omega) hl.x (by omega) hW
  have tl2 := fun (M : Store) => told_err (W := W) (M := M) (n := n + 1) g2 (by omega) (by omega) (by simp; omega) hl.x (by omega) hW
  have tl3 := fun (M : Store) => told_err (W := W) (M := M) (n := n + 1) g3 (by omega) (by omega) (by omega) (bad_x hl) (by omega) hW
  have tl4 := fun (M : Store) => told_err (W := W) (M := M) (n := n + 1) g4 (by omega) (by omega) (by simp) (bad_x hl) (by omega) hW
  have tl5 := fun (M : Store) => told_err (W := W) (M := M) (n := n + 1) g5 (by omega) (by omega) (by simp) hl.x (by omega) hW
  have tl6 := fun (M : Store) => told_err (W := W) (M := M) (n := n + 1) g6 (by omega) (by omega) (by simp) (bad_x hl) (by omega) hW
  have tl7 := fun (M : Store) => told_err (W := W) (M := M) (n := n + 1) g7 (by omega) (by omega) (by simp) hl.x (by omega) hW
  have tb := fun (M : Store) => two_errP (W := W) (M := M) (n := n + 1) (lot := bad lot) (h := 1) (i := 9) (j := 9) (x := .int (lot.length : Nat)) (by omega) (bad_x hl) (dropE_none' (by omega) (bad_no hl.all) (by simp) (by simp) (by simp)) (pieceE_bad hl.all)
  have vc8 : VC ([.h 8, .w 1000000000] ++ List.replicate 58 .b) := ⟨by simp, fun a ha => by
    rcases List.mem_append.mp ha with ha | ha
    · simp at ha
      rcases ha with rfl | rfl
      · exact ⟨by omega, by omega⟩
      · exact ⟨by omega, by omega⟩
    · rw [List.eq_of_mem_replicate ha]; trivial⟩
  have rt := fun (M : Store) => right_ok (W := W) (M := M) (n := n) hl vc8 hn hW
  have q1 := fun (M : Store) => two_err (W := W) (M := M) (n := n + 1) twos_v tw1
  have q2 := fun (M : Store) => two_err (W := W) (M := M) (n := n + 1) twos_v tw2
  have q3 := fun (M : Store) => two_err (W := W) (M := M) (n := n + 1) twos_v tw3
  have q4 := fun (M : Store) => two_err (W := W) (M := M) (n := n + 1) twos_v tw4
  have q5 := fun (M : Store) => two_err (W := W) (M := M) (n := n + 1) twos_v tw5
  have q6 := fun (M : Store) => two_err (W := W) (M := M) (n := n + 1) twos_v tw6
  have q7 : ∀ M : Store, callF P W (n + 1 + 5) 29 [.lst (pl twos), .int 4, .int 2, .int 3] M = .ok (.lst [.lst (lt [.h 4, .h 2]), .lst (lt [.h 4, .h 6])]) M := fun M => by
    obtain ⟨a, b, ga, gb, e⟩ := two_ok (W := W) (M := M) (n := n + 1) twos_v tw7
    have : a = ⟨[2, 4], 1⟩ := by simpa [twos] using ga.symm
    subst this
    have : b = ⟨[4, 6], 1⟩ := by simpa [twos] using gb.symm
    subst this
    exact e
  have hN2 : n + 1 + 5 = n + 6 := rfl
  rw [hN2] at tl1 tl2 tl3 tl4 tl5 tl6 tl7 tb q1 q2 q3 q4 q5 q6 q7
  simp only [nameE] at tl1 tl2 tl3 tl4 tl5 tl6 tl7
  -- how the courses are made
  have c1 : cutd (lt c) none (some (at_ : Int)) = lt (c.take at_) := by rw [cut_to]; simp [List.map_take]
  have c2 : cutd (lt c) (some (at_ : Int)) none = lt (c.drop at_) := by rw [cut_from]; simp [List.map_drop]
  have a1 : ∀ M : Store, binop .add (.lst (lt (c.take at_))) (.lst [x.D]) M = .ok (.lst (lt (c.take at_ ++ [x]))) M := fun M => by
    rw [add_ll (by simp [big, PySem.sizeLine]; omega)]; simp
  have a2 : ∀ M : Store, binop .add (.lst (lt (c.take at_ ++ [x]))) (.lst (lt (c.drop at_))) M = .ok (.lst (lt sp)) M := fun M => by
    rw [add_ll (by simp [big, PySem.sizeLine]; omega)]
    have e : sp = c.take at_ ++ x :: c.drop at_ := rfl
    rw [e]; simp
  have a3 : ∀ M : Store, binop .add (.lst (lt sp)) (.lst [.tup [.str "hand", .int 0]]) M = .ok (.lst (lt (sp ++ [.h 0]))) M := fun M => by
    rw [add_ll (by simp [big, PySem.sizeLine]; omega)]; simp [Lt.D]
  have a4 : ∀ M : Store, binop .add (.lst (pl lot)) (.lst [.tup [.tup [], .int 1]]) M = .ok (.lst (pl (bad lot))) M := fun M => by
    rw [add_ll (by simp [big, PySem.sizeLine]; omega)]; simp [Pc.D, bad]
  have r1 : List.replicate 61 (D.tup [.str "bell"]) = lt (List.replicate 61 .b) := by simp [Lt.D]
  have r2 : List.replicate 61 (D.tup [.str "hand", .int 9]) = lt (List.replicate 61 (.h 9)) := by simp [Lt.D]
  have r3 : List.replicate 61 (D.tup [.str "word", .int 1000000001]) = lt (List.replicate 61 (.w 1000000001)) := by simp [Lt.D]
  have m1 : ∀ M : Store, binop .mul (.lst [.tup [.str "bell"]]) (.int 61) M = .ok (.lst (lt (List.replicate 61 .b))) M := fun M => by rw [mul61, r1]
  have m2 : ∀ M : Store, binop .mul (.lst [.tup [.str "hand", .int 9]]) (.int 61) M = .ok (.lst (lt (List.replicate 61 (.h 9)))) M := fun M => by rw [mul61, r2]
  have m3 : ∀ M : Store, binop .mul (.lst [.tup [.str "word", .int 1000000001]]) (.int 61) M = .ok (.lst (lt (List.replicate 61 (.w 1000000001)))) M := fun M => by rw [mul61, r3]
  have m4 : ∀ M : Store, binop .mul (.lst [.tup [.str "bell"]]) (.int 58) M = .ok (.lst (List.replicate 58 (.tup [.str "bell"]))) M := fun M => mul58
  have m5 : ∀ M : Store, binop .add (.int 1000000000) (.int 1) M = .ok (.int 1000000001) M := fun M => rfl
  have m6 : ∀ M : Store, binop .add (.lst [.tup [.str "hand", .int 8], .tup [.str "word", .int 1000000000]]) (.lst (List.replicate 58 (.tup [.str "bell"]))) M = .ok (.lst (lt ([.h 8, .w 1000000000] ++ List.replicate 58 .b))) M := fun M => by
    rw [add_ll (by simp [big, PySem.sizeLine])]; simp [Lt.D]
  have m7 : cutd (lt ([.h 8, .w 1000000000] ++ List.replicate 58 .b)) none (some 60) = lt ([.h 8, .w 1000000000] ++ List.replicate 58 .b) := by
    have := cut_to (xs := lt ([.h 8, .w 1000000000] ++ List.replicate 58 .b)) (k := 60)
    rw [List.take_of_length_le (by simp)] at this
    exact this
  have hwr : lt wrongs = [.tup [.str "hand"], .tup [.str "hand", .int 0], .tup [.str "hand", .int (-1)], .tup [.str "hand", .bl true], .tup [.str "bell", .int 1], .tup [.str "word", .int (-1)], .tup [.str "word"], .tup [.str "bells"], .tup [.str "strike"]] := rfl
  have htw : pl twos = [.tup [.tup [.int 3], .int 2], .tup [.tup [.int 3, .int 5], .int 2], .tup [.tup [.int 2, .int 4], .int 1], .tup [.tup [.int 4, .int 6], .int 1]] := rfl
  have hq7 : lt [.h 4, .h 2] = [.tup [.str "hand", .int 4], .tup [.str "hand", .int 2]] := rfl
  have hq8 : lt [.h 4, .h 6] = [.tup [.str "hand", .int 4], .tup [.str "hand", .int 6]] := rfl
  have heq : ∀ M : Store, cmpop .eq (.lst [.lst (lt [.h 4, .h 2]), .lst (lt [.h 4, .h 6])]) (.lst [.lst (lt [.h 4, .h 2]), .lst (lt [.h 4, .h 6])]) M = .ok (.bl true) M := fun M => eq_same (by rw [top_lst, okd, List.all_cons, okd_lts, List.all_cons, okd_lts]; rfl)
  have n1 := fun (M : Store) (i : Int) => ne_p (M := M) (i := i) sk1
  have n2 := fun (M : Store) (i : Int) => ne_p (M := M) (i := i) sk2
  have n3 := fun (M : Store) => ne_q (M := M) sk3 sk4
  have n4 := fun (M : Store) => ne_q (M := M) sk3 sk5
  have n5 := fun (M : Store) => ne_q (M := M) sk3 sk6
  rw [hwr] at hwa
  rw [htw] at q1 q2 q3 q4 q5 q6 q7
  rw [hq7, hq8] at q7 heq
  have hC0 : (lt c).length = c.length := by simp
  have hL0 : (pl lot).length = lot.length := by simp
  have hcL : ∀ M : Store, birun .len [.lst (lt c)] M = .ok (.int c.length) M := fun M => by simp
  have hlL : ∀ M : Store, birun .len [.lst (pl lot)] M = .ok (.int lot.length) M := fun M => by simp
  generalize lt (c.take at_) = C1 at *
  generalize lt (c.drop at_) = C2 at *
  generalize lt (c.take at_ ++ [x]) = C3 at *
  generalize lt (sp ++ [.h 0]) = C5 at *
  generalize lt sp = C4 at *
  generalize lt c = C0 at *
  generalize pl (bad lot) = L1 at *
  generalize pl lot = L0 at *
  generalize lt (List.replicate 61 .b) = B1 at *
  generalize lt (List.replicate 61 (.h 9)) = B2 at *
  generalize lt (List.replicate 61 (.w 1000000001)) = B3 at *
  generalize lt ([.h 8, .w 1000000000] ++ List.replicate 58 .b) = B4 at *
  generalize List.replicate 58 (D.tup [.str "bell"]) = B5 at *
  have b9 : (9 : Nat) ≤ big := by simp [big, PySem.sizeLine]
  refine ⟨p2, ?_⟩
  have e1' : callF P W (n + 6) 17 [.ptr 0, .int (c.length + 1)] [pu p] = .ok (.int (at_ : Int)) [pu p1] := e1
  simp [f33, b33, hC0, hL0, e1', b9, e2, hwa, c1, c2, a1, a2, a3, a4, tl1, tl2, tl3, tl4, tl5, tl6, tl7, tb, n1, n2, n3, n4, n5, m1, m2, m3, m4, m5, m6, m7, pow_9, rt, q1, q2, q3, q4, q5, q6, q7, heq]
  exact finish_rt_same rfl
end
end K30

/-! AL30 -/
set_option maxRecDepth 100000
set_option maxHeartbeats 4000000
namespace K30
open G
variable {W : Nat}
section
variable {M : Store} {n : Nat}
theorem VL.sub {lot l2 : List Pc} (h : VL lot) (hs : ∀ p ∈ l2, p ∈ lot) (hl : l2.length ≤ 10) : VL l2 := ⟨hl, fun p hp => h.all p (hs p hp)⟩
theorem one_sort : VP ⟨[1], 1⟩ := ⟨by simp, by simp, by simp, by simp, by simp⟩
theorem single_v {s : Int} (h : 1 ≤ s ∧ s ≤ 8) : VP ⟨[s], 1⟩ := ⟨by simp, by simp, by simpa using h, by simp, by simp⟩
theorem mem_fault {lot : List Pc} {a b : Pc} {v : Int} (hl : VL lot) (ha : a ∈ lot) (hb : b ∈ lot) (h1 : v ∈ a.x) (h2 : v ∈ b.x) (f1 : fits a b = false) (f2 : fits b a = false) : faultO lot ≠ none := by
  intro h
  obtain ⟨i, hi, rfl⟩ := List.getElem_of_mem ha
  obtain ⟨j, hj, rfl⟩ := List.getElem_of_mem hb
  have hv := (hl.all _ (List.getElem_mem hi)).rng v h1
  obtain ⟨k, rfl⟩ := Int.eq_ofNat_of_zero_le (show 0 ≤ v by omega)
  have gi : lot[i]? = some lot[i] := by simp [hi]
  have gj : lot[j]? = some lot[j] := by simp [hj]
  rcases Nat.lt_trichotomy i j with hlt | he | hlt
  · rcases fault_none h gi gj hlt h1 h2 (by omega) with e | e
    · rw [f1] at e; cases e
    · rw [f2] at e; cases e
  · subst he
    have := fits_yes (a := lot[i]) (b := lot[i]) (fun _ h => h) (Int.le_refl _)
    rw [f1] at this; cases this
  · rcases fault_none h gj gi hlt h2 h1 (by omega) with e | e
    · rw [f2] at e; cases e
    · rw [f1] at e; cases e
theorem K30law (ns : List Int) : ∃ M, callF P (2 ^ 40) 30 34 [.scr ns] [] = .ok (.bl true) M := by
  have hW : 100000 < 2 ^ 40 := by decide
  generalize (2 ^ 40 : Nat) = W at *
  rw [callF_eq (n := 29) (k := f34) rfl rfl]
  obtain ⟨p0, e0⟩ := purse (W := W) (n := 28) ns
  have hR0 : (([] : Store).all (underO (([] : Store).length + 1))) = true := rfl
  -- the pool
  obtain ⟨zs, p1, hz, e1⟩ := mix_il (W := W) (n := 27) p0 [1, 2, 3, 4, 5, 6, 7, 8] [] (by simp) hR0
  obtain ⟨k2, p2, hk2, e2⟩ := drawZ (W := W) (n := 28) p1 4 (by omega) (by omega) []
  have hzl : zs.length = 8 := by rw [hz.length_eq]; rfl
  obtain ⟨m, hm, hm3⟩ : ∃ m : Nat, L2.atI [D.int 3, .int 3, .int 4, .int 8] (k2 : Int) = some (.int m) ∧ 3 ≤ m := by
    have : k2 = 0 ∨ k2 = 1 ∨ k2 = 2 ∨ k2 = 3 := by omega
    rcases this with rfl | rfl | rfl | rfl
    · exact ⟨3, rfl, by omega⟩
    · exact ⟨3, rfl, by omega⟩
    · exact ⟨4, rfl, by omega⟩
    · exact ⟨8, rfl, by omega⟩
  have hpo : PO (zs.take m) := by
    refine ⟨(hz.symm.nodup (by decide)).sublist (List.take_sublist _ _), fun s hs => ?_, by simp; omega⟩
    have := hz.mem_iff.mp (List.mem_of_mem_take hs)
    simp at this; omega
  have cp : cutd (il zs) none (some (m : Int)) = il (zs.take m) := by rw [cut_to]; simp [il, List.map_take]
  generalize hpool : zs.take m = pool at *
  obtain ⟨k3, p3, hk3, e3⟩ := drawZ (W := W) (n := 28) p2 8 (by omega) (by omega) []
  let most : Nat := if k3 = 0 then 30 else 4
  have hmost : 1 ≤ most ∧ most ≤ 30 := by show 1 ≤ (if k3 = 0 then 30 else 4) ∧ (if k3 = 0 then 30 else 4) ≤ 30; split <;> omega
  obtain ⟨k4, p4, hk4, e4⟩ := drawZ (W := W) (n := 28) p3 6 (by omega) (by omega) []
  obtain ⟨lot, p5, hll, hlv, e5⟩ := law_lot (W := W) (n := 26) p4 pool most k4 hpo hmost (by omega)
  have hVL : VL lot := ⟨by omega, hlv⟩
  obtain ⟨k6, p6, hk6, e6⟩ := drawZ (W := W) (n := 28) p5 5 (by omega) (by omega) []
  obtain ⟨full, p7, hfc, hfl, hfd, e7⟩ := law_ended (W := W) (n := 26) p6 hVL (bs := k6) (by omega) hW
  -- all is dealt
  have hol : (opts lot full).length = lot.length := by simp [opts]
  have e23 : callF P W 29 23 [.lst (pl lot), .lst (lt full)] [pu p7] = .ok (.lst (od (opts lot full))) [pu p7] := law_able (n := 28) lot full (by omega) (by have := hfc.len; omega) (fun a ha => (hfc.all a ha).ok)
  have e24 : callF P W 29 24 [.lst (od (opts lot full)), .lst []] [pu p7] = .ok (.bl true) [pu p7] := by
    have := law_dealt (W := W) (M := [pu p7]) 29 (opts lot full) [] (by omega) (by simp) (by simp; omega)
    have hd : dl (opts lot full) [] = true := (dl_iff _ _).mpr (by obtain ⟨ps, h⟩ := hfd; exact ⟨ps, h, fun q _ hq => by cases hq⟩)
    simp only [List.length_nil, List.drop_zero, hd] at this
    exact this
  -- the hands
  let hs : List Nat := (List.range full.length).filter fun i => (full.getD i .b).isH
  have hhs : ∀ g ∈ hs, g < full.length := fun g hg => List.mem_range.mp (List.mem_filter.mp hg).1
  have hsl : hs.length ≤ full.length := by
    have := List.length_filter_le (fun i => (full.getD i .b).isH) (List.range full.length)
    simp at this
    exact this
  have hr8 : rngI full.length [pu p7] = .ok (.items ((List.range full.length).map fun (i : Nat) => D.int (i : Int))) [pu p7] := rngI_nat (by omega)
  have hlc := lcA_filter (l := List.range full.length) (acc := []) (f := lcT P W (callF P W 29) [some (.scr ns), some (.ptr 0), some (.lst (il pool)), some (.int most), some (.lst (pl lot)), some (.int k6), some (.lst (lt full)), none, none, none, none, none, none] (.n 12) (.cons (.cmp .eq (.ix (.ix (.v 6) (.v 12)) (.int 0)) (.str "hand")) .nil) (.v 12)) (g := fun (i : Nat) => D.int (i : Int)) (k := fun (i : Nat) => D.int (i : Int)) (p := fun i => (full.getD i .b).isH) (M := [pu p7]) (fun i hi => by
    have hi := range_mem hi
    have hg : full[i]? = some full[i] := by simp [hi]
    have ha := lt_get hg
    have hd : full.getD i .b = full[i] := by simp [hi]
    rw [hd]
    generalize full[i] = a at *
    have e := sd_h (M := [pu p7]) a
    generalize lt full = F at *
    cases h : a.isH with
    | true => rw [h] at e; simp [lcT_app, gslots, wipeR, ha, lt_D, at0, e, Res.noerr]
    | false => rw [h] at e; simp [lcT_app, gslots, wipeR, ha, lt_D, at0, e, Res.noerr]) (by simp [big, PySem.sizeLine]; omega)
  have hlc2 : lcA (lcT P W (callF P W 29) [some (.scr ns), some (.ptr 0), some (.lst (il pool)), some (.int most), some (.lst (pl lot)), some (.int k6), some (.lst (lt full)), none, none, none, none, none, none] (.n 12) (.cons (.cmp .eq (.ix (.ix (.v 6) (.v 12)) (.int 0)) (.str "hand")) .nil) (.v 12)) ((List.range full.length).map fun (i : Nat) => D.int (i : Int)) [] [pu p7] = .ok (nl hs) [pu p7] := by
    simp only [List.nil_append] at hlc
    exact hlc
  have hneH : ∀ M : Store, cmpop .ne (.lst (nl hs)) (.lst []) M = .ok (.bl (!decide (hs = []))) M := fun M => by
    rw [seq_nl, ne_nilL]
    simp
  have hF0 : (lt full).length = full.length := by simp
  have hH0 : (nl hs).length = hs.length := by simp
  have right := fun (M : Store) (c : List Lt) (hc : VC c) => right_ok (W := W) (M := M) (n := 23) hVL hc (by omega) hW
  simp only [Nat.reduceAdd] at e0 e1 e2 e3 e4 e5 e6 e7 right
  have hrg : lrgIJ false 1 9 [pu p0] = .ok (.lst (il [1, 2, 3, 4, 5, 6, 7, 8])) [pu p0] := rfl
  have main : Rt (runSs P W (callF P W 29) f34.body [some (.scr ns), none, none, none, none, none, none, none, none, none, none, none, none] []) (fun d _ => d = .bl true) := by
    simp only [f34, b34, rSs_cons]
    refine Rt.step [some (.scr ns), some (.ptr 0), none, none, none, none, none, none, none, none, none, none, none] [pu p0] (by simp [e0]) ?_
    refine Rt.step [some (.scr ns), some (.ptr 0), some (.lst (il pool)), none, none, none, none, none, none, none, none, none, none] [pu p2] (by
      generalize il [1, 2, 3, 4, 5, 6, 7, 8] = R8 at *
      generalize il zs = Z at *
      generalize il pool = PO at *
      simp [hrg, e1, e2, hm, cp]) ?_
    refine Rt.step [some (.scr ns), some (.ptr 0), some (.lst (il pool)), some (.int most), none, none, none, none, none, none, none, none, none] [pu p3] (by
      by_cases h : k3 = 0
      · have hmo : most = 30 := if_pos h
        simp [e3, h, hmo]
      · have hmo : most = 4 := if_neg h
        simp [e3, h, hmo]) ?_
    refine Rt.step [some (.scr ns), some (.ptr 0), some (.lst (il pool)), some (.int most), some (.lst (pl lot)), none, none, none, none, none, none, none, none] [pu p5] (by
      generalize pl lot = L at *
      generalize il pool = PO at *
      simp [e4, e5]) ?_
    refine Rt.step [some (.scr ns), some (.ptr 0), some (.lst (il pool)), some (.int most), some (.lst (pl lot)), some (.int k6), none, none, none, none, none, none, none] [pu p6] (by simp [e6]) ?_
    refine Rt.step [some (.scr ns), some (.ptr 0), some (.lst (il pool)), some (.int most), some (.lst (pl lot)), some (.int k6), some (.lst (lt full)), none, none, none, none, none, none] [pu p7] (by
      generalize pl lot = L at *
      generalize lt full = F at *
      simp [e7]) ?_
    refine Rt.step [some (.scr ns), some (.ptr 0), some (.lst (il pool)), some (.int most), some (.lst (pl lot)), some (.int k6), some (.lst (lt full)), none, none, none, none, none, none] [pu p7] (by
      generalize pl lot = L at *
      generalize lt full = F at *
      generalize od (opts lot full) = O at *
      simp [e23, e24]) ?_
    refine Rt.step [some (.scr ns), some (.ptr 0), some (.lst (il pool)), some (.int most), some (.lst (pl lot)), some (.int k6), some (.lst (lt full)), some (.lst (nl hs)), none, none, none, none, none] [pu p7] (by
      generalize pl lot = L at *
      generalize lt full = F at *
      generalize nl hs = H at *
      simp [hF0, hr8, hlc2]) ?_
    refine Rt.step [some (.scr ns), some (.ptr 0), some (.lst (il pool)), some (.int most), some (.lst (pl lot)), some (.int k6), some (.lst (lt full)), some (.lst (nl hs)), some (.lst (lt full)), none, none, none, none] [pu p7] (by
      generalize lt full = F at *
      simp) ?_
    refine Rt.then (I := fun ρ M => ∃ less p g, VC less ∧ M = [pu p] ∧ ρ = [some (.scr ns), some (.ptr 0), some (.lst (il pool)), some (.int most), some (.lst (pl lot)), some (.int k6), some (.lst (lt full)), some (.lst (nl hs)), some (.lst (lt less)), none, none, g, none]) ?_ ?_
    · by_cases hh : hs = []
      · refine Nx.of _ _ (by
          have := hneH [pu p7]
          have hd : decide (hs = []) = true := by simpa using hh
          rw [hd] at this
          generalize nl hs = H at *
          generalize lt full = F at *
          simp [this]) ⟨full, p7, none, hfc, rfl, rfl⟩
      · obtain ⟨v, p8, hv, e10⟩ := drawN (W := W) (n := 28) p7 hs.length (by have := List.length_pos_iff.mpr hh; omega) (by omega) []
        have hga : L2.atI (nl hs) (v : Int) = some (.int (hs[v] : Nat)) := atI_nat (by simp [hv])
        have hgl := hhs hs[v] (List.getElem_mem hv)
        generalize hs[v] = g at *
        have c1 : cutd (lt full) none (some (g : Int)) = lt (full.take g) := by rw [cut_to]; simp [List.map_take]
        have c2 : cutd (lt full) (some ((g : Int) + 1)) none = lt (full.drop (g + 1)) := by
          have := cut_from (xs := lt full) (k := g + 1)
          simp only [Int.natCast_add, Int.natCast_one] at this
          rw [this]; simp [List.map_drop]
        have ad : ∀ M : Store, binop .add (.lst (lt (full.take g))) (.lst (lt (full.drop (g + 1)))) M = .ok (.lst (lt (full.take g ++ full.drop (g + 1)))) M := fun M => by
          rw [add_ll (by simp [big, PySem.sizeLine]; omega)]; simp
        have hlc' : VC (full.take g ++ full.drop (g + 1)) := ⟨by simp; omega, fun a ha => by
          rcases List.mem_append.mp ha with ha | ha
          · exact hfc.all a (List.mem_of_mem_take ha)
          · exact hfc.all a (List.mem_of_mem_drop ha)⟩
        simp only [Nat.reduceAdd] at e10
        refine Nx.of _ _ (by
          have := hneH [pu p7]
          have hd : decide (hs = []) = false := by simpa using hh
          rw [hd] at this
          generalize nl hs = H at *
          generalize lt full = F at *
          generalize lt (full.take g) = X1 at *
          generalize lt (full.drop (g + 1)) = X2 at *
          generalize lt (full.take g ++ full.drop (g + 1)) = X3 at *
          simp [this, hH0, e10, hga, c1, c2, ad]) ⟨full.take g ++ full.drop (g + 1), p8, some (.int (g : Int)), hlc', rfl, rfl⟩
    · rintro ρ M ⟨less, p8, g, hlc', rfl, rfl⟩
      obtain ⟨drawn, p9, hdc, e22⟩ := law_drawn_course (W := W) (n := 26) p8 pool hpo
      have turn1 : ∀ (c : List Lt) (z : Option D), VC c → foT P W (callF P W 29) (.n 9) b34_1 (.lst (lt c)) [some (.scr ns), some (.ptr 0), some (.lst (il pool)), some (.int most), some (.lst (pl lot)), some (.int k6), some (.lst (lt full)), some (.lst (nl hs)), some (.lst (lt less)), z, none, g, none] [pu p9] = some (.nx [some (.scr ns), some (.ptr 0), some (.lst (il pool)), some (.int most), some (.lst (pl lot)), some (.int k6), some (.lst (lt full)), some (.lst (nl hs)), some (.lst (lt less)), some (.lst (lt c)), none, g, none], [pu p9]) := fun c z hc => by
        have := right [pu p9] c hc
        generalize lt c = C at *
        generalize pl lot = L at *
        simp [foT_app, b34_1, this]
      have hloop : forL (foT P W (callF P W 29) (.n 9) b34_1) [.lst (lt full), .lst (lt less), .lst (lt drawn)] [some (.scr ns), some (.ptr 0), some (.lst (il pool)), some (.int most), some (.lst (pl lot)), some (.int k6), some (.lst (lt full)), some (.lst (nl hs)), some (.lst (lt less)), none, none, g, none] [pu p9] = some (.nx [some (.scr ns), some (.ptr 0), some (.lst (il pool)), some (.int most), some (.lst (pl lot)), some (.int k6), some (.lst (lt full)), some (.lst (nl hs)), some (.lst (lt less)), some (.lst (lt drawn)), none, g, none], [pu p9]) := by
        rw [forL, turn1 full _ hfc, turn_nx, forL, turn1 less _ hlc', turn_nx, forL, turn1 drawn _ hdc, turn_nx]; rfl
      simp only [Nat.reduceAdd] at e22
      refine Rt.step [some (.scr ns), some (.ptr 0), some (.lst (il pool)), some (.int most), some (.lst (pl lot)), some (.int k6), some (.lst (lt full)), some (.lst (nl hs)), some (.lst (lt less)), some (.lst (lt drawn)), none, g, none] [pu p9] (by
        generalize lt full = F at *
        generalize lt less = F2 at *
        generalize lt drawn = F3 at *
        generalize il pool = PO at *
        simp [e22]
        exact hloop) ?_
      -- one piece more, one bell more
      have h0 := hd0_at hpo.ne
      have hV2 : VL (⟨[hd0 pool], 1⟩ :: lot) := ⟨by simp; omega, fun q hq => by
        rcases List.mem_cons.mp hq with rfl | hq
        · exact single_v (hpo.rng _ (hd0_mem hpo.ne))
        · exact hlv q hq⟩
      have hC2 : VC (.b :: full.take 40) := ⟨by simp; omega, fun a ha => by
        rcases List.mem_cons.mp ha with rfl | ha
        · trivial
        · exact hfc.all a (List.mem_of_mem_take ha)⟩
      have r2 : callF P W 29 26 [.lst (pl (⟨[hd0 pool], 1⟩ :: lot)), .lst (lt (.b :: full.take 40))] [pu p9] = .ok (.bl true) [pu p9] := right_ok (n := 23) hV2 hC2 (by omega) hW
      have ad1 : binop .add (.lst [.tup [.tup [.int (hd0 pool)], .int 1]]) (.lst (pl lot)) [pu p9] = .ok (.lst (pl (⟨[hd0 pool], 1⟩ :: lot))) [pu p9] := by
        rw [add_ll (by simp [big, PySem.sizeLine]; omega)]; simp [Pc.D]
      have c40 : cutd (lt full) none (some 40) = lt (full.take 40) := by
        have := cut_to (xs := lt full) (k := 40)
        rw [show lt (full.take 40) = (lt full).take 40 by simp [List.map_take]]; exact this
      have ad2 : binop .add (.lst [.tup [.str "bell"]]) (.lst (lt (full.take 40))) [pu p9] = .ok (.lst (lt (.b :: full.take 40))) [pu p9] := by
        rw [add_ll (by simp [big, PySem.sizeLine]; omega)]; simp [Lt.D]
      refine Rt.step [some (.scr ns), some (.ptr 0), some (.lst (il pool)), some (.int most), some (.lst (pl lot)), some (.int k6), some (.lst (lt full)), some (.lst (nl hs)), some (.lst (lt less)), some (.lst (lt drawn)), none, g, none] [pu p9] (by
        generalize lt (.b :: full.take 40) = X1 at *
        generalize lt (full.take 40) = X2 at *
        generalize pl (⟨[hd0 pool], 1⟩ :: lot) = X3 at *
        generalize lt full = F at *
        generalize pl lot = L at *
        generalize il pool = PO at *
        simp [h0, ad1, c40, ad2, r2]) ?_
      -- nesting
      obtain ⟨a, b, p10, va, vb, ⟨v, hva, hvb⟩, f1, f2, e31⟩ := law_pair (W := W) (n := 26) p9 pool hpo
      have hmx : (lot.take 3 ++ [a, b]).length ≤ 5 := by simp; omega
      obtain ⟨zs2, p11, hz2, e18⟩ := mix_pl (W := W) (n := 27) p10 (.lst (pl (lot.take 3 ++ [a, b]))) (lot.take 3 ++ [a, b]) [] (.inl rfl) (by omega) rfl
      have hV3 : VL zs2 := ⟨by rw [hz2.length_eq]; omega, fun q hq => by
        rcases List.mem_append.mp (hz2.mem_iff.mp hq) with hq | hq
        · exact hlv q (List.mem_of_mem_take hq)
        · simp at hq; rcases hq with rfl | rfl
          · exact va
          · exact vb⟩
      have hfz : faultO zs2 ≠ none := mem_fault hV3 (hz2.mem_iff.mpr (by simp)) (hz2.mem_iff.mpr (by simp)) hva hvb f1 f2
      have n1 : callF P W 29 30 [.lst (pl lot), .bl false] [pu p9] = .ok (.bl true) [pu p9] := nested_right (n := 22) hVL (fun h => by cases h) (by omega) hW
      have n2 : callF P W 29 30 [.lst (pl zs2), .bl true] [pu p11] = .ok (.bl true) [pu p11] := nested_right (n := 22) hV3 (fun _ => hfz) (by omega) hW
      have c3 : cutd (pl lot) none (some 3) = pl (lot.take 3) := by
        have := cut_to (xs := pl lot) (k := 3)
        rw [show pl (lot.take 3) = (pl lot).take 3 by simp [List.map_take]]; exact this
      have ad3 : ∀ M : Store, binop .add (.lst (pl (lot.take 3))) (.lst (pl [a, b])) M = .ok (.lst (pl (lot.take 3 ++ [a, b]))) M := fun M => by
        rw [add_ll (by simp [big, PySem.sizeLine]; omega)]; simp
      simp only [Nat.reduceAdd] at e31 e18
      refine Rt.step [some (.scr ns), some (.ptr 0), some (.lst (il pool)), some (.int most), some (.lst (pl lot)), some (.int k6), some (.lst (lt full)), some (.lst (nl hs)), some (.lst (lt less)), some (.lst (lt drawn)), none, g, none] [pu p11] (by
        generalize pl (lot.take 3 ++ [a, b]) = X1 at *
        generalize pl (lot.take 3) = X2 at *
        generalize pl [a, b] = X3 at *
        generalize pl zs2 = X4 at *
        generalize pl lot = L at *
        generalize il pool = PO at *
        simp [n1, c3, e31, ad3, e18, n2]) ?_
      -- a chain
      obtain ⟨k5, p12, hk5, e32d⟩ := drawZ (W := W) (n := 28) p11 5 (by omega) (by omega) []
      obtain ⟨chain, p13, hV4, hch, e32⟩ := law_chain (W := W) (n := 26) p12 pool (1 + k5) hpo (by omega)
      have hcf := no_fault hch
      have e27 : callF P W 29 27 [.lst (pl chain)] [pu p13] = .ok .non [pu p13] := by
        have := law_fault (W := W) (M := [pu p13]) (n := 27) chain (by have := hV4.len; omega) hV4.x
        rw [hcf] at this
        exact this
      have n3 : callF P W 29 30 [.lst (pl chain), .bl false] [pu p13] = .ok (.bl true) [pu p13] := nested_right (n := 22) hV4 (fun h => by cases h) (by omega) hW
      simp only [Nat.reduceAdd, Int.natCast_add, Int.natCast_one] at e32 e32d
      refine Rt.step [some (.scr ns), some (.ptr 0), some (.lst (il pool)), some (.int most), some (.lst (pl lot)), some (.int k6), some (.lst (lt full)), some (.lst (nl hs)), some (.lst (lt less)), some (.lst (lt drawn)), some (.lst (pl chain)), g, none] [pu p13] (by
        generalize pl chain = X4 at *
        generalize il pool = PO at *
        simp [e32d, e32]) ?_
      refine Rt.step [some (.scr ns), some (.ptr 0), some (.lst (il pool)), some (.int most), some (.lst (pl lot)), some (.int k6), some (.lst (lt full)), some (.lst (nl hs)), some (.lst (lt less)), some (.lst (lt drawn)), some (.lst (pl chain)), g, none] [pu p13] (by
        generalize pl chain = X4 at *
        simp [e27, n3]) ?_
      obtain ⟨p14, e33⟩ := law_refused (W := W) (n := 22) p13 hVL (by omega) hfc (by omega) (by omega) hW
      simp only [Nat.reduceAdd] at e33
      refine Rt.of (.bl true) [pu p14] (by
        generalize pl lot = L at *
        generalize lt full = F at *
        simp [e33]) rfl
  obtain ⟨d, M', e, rfl⟩ := main
  refine ⟨[], ?_⟩
  have hm2 : [D.scr ns].map some ++ List.replicate (f34.names.length - f34.np) none = [some (.scr ns), none, none, none, none, none, none, none, none, none, none, none, none] := rfl
  rw [hm2, e]
  exact finish_rt_cut rfl rfl
end
end K30

open PySem PySem.W PyProof.Rows
set_option maxHeartbeats 0 in
theorem PySem.Challenge.cw_whoevercomes_k30_hindsight_and_nested_sk_holds : PySem.Challenge.rw_whoevercomes_k30_hindsight_and_nested_sk.Holds := by
  w_on; o_law; k_head; (case hw => w_witness2)
  k_fill
  refine G.walk_g (l := PySem.Challenge.rw_whoevercomes_k30_hindsight_and_nested_sk) (wf := 2 ^ 40) (n := 30) (lk := 34) rfl rfl ⟨rfl, by decide, by decide⟩ (fun ns _ => K30.K30law ns) (fun w h Y => PySem.W.kIn_of Y) ?F
  case F =>
    intro w mg fa h KX GG hmg
    refine' K30T.all_mk (wf := 2 ^ 40) (n := 30) KX GG hmg ?a0 ?a1 ?a2 ?a3 ?a4 ?a5 ?a6 ?a7 ?a8 ?a9 ?a10 ?a11 ?a12 ?a13 ?a14 ?a15 ?a16 ?a17 ?a18 ?a19 ?a20 ?a21 ?a22 ?a23 ?a24 ?a25 ?a26 ?a27 ?a28 ?a29 ?a30 ?a31 ?a32 ?a33 ?a34 ?d0 ?d1 ?d2 ?d3 ?d4 ?d5 ?d6 ?d7 ?d8 ?d9 ?d10 ?d11 ?d12 ?d13 ?d14 ?d15 ?d16 ?d17 ?d18 ?d19 ?d20 ?d21 ?d22 ?d23 ?d24 ?d25 ?d26 ?d27 ?d28 ?d29 ?d30 ?d31 ?d32 ?d33 ?d34 ?ae0 ?ek0 ?ik0 ?en0_what ?ae1 ?ek1 ?ik1 ?en1_place ?ae2 ?ek2 ?ik2 ?en2_place ?es0_0 ?es0_1 ?es0_2 ?es1_0 ?es1_1 ?es1_2 ?es2_0 ?es2_1 ?es2_2 ?z_len ?z_sum ?z_max ?z_min ?z_abs ?z_int ?z_sorted ?z_list ?z_tuple ?z_any ?z_all ?z_isinstance ?z_range ?z_bool ?z_str
    (case a0 => k_is)
    (case a1 => k_is)
    (case a2 => k_is)
    (case a3 => k_is)
    (case a4 => k_is)
    (case a5 => k_is)
    (case a6 => k_is)
    (case a7 => k_is)
    (case a8 => k_is)
    (case a9 => k_is)
    (case a10 => k_is)
    (case a11 => k_is)
    (case a12 => k_is)
    (case a13 => k_is)
    (case a14 => k_is)
    (case a15 => k_is)
    (case a16 => k_is)
    (case a17 => k_is)
    (case a18 => k_is)
    (case a19 => k_is)
    (case a20 => k_is)
    (case a21 => k_is)
    (case a22 => k_is)
    (case a23 => k_is)
    (case a24 => k_is)
    (case a25 => k_is)
    (case a26 => k_is)
    (case a27 => k_is)
    (case a28 => k_is)
    (case a29 => k_is)
    (case a30 => k_is)
    (case a31 => k_is)
    (case a32 => k_is)
    (case a33 => k_is)
    (case a34 => k_is)
    (case d0 => (refine' G.Dk.make ?_l ?_c ?_k; (case _l => k_is); (case _c => k_is); (case _k => k_is)))
    (case d1 => (refine' G.Dk.make ?_l ?_c ?_k; (case _l => k_is); (case _c => k_is); (case _k => k_is)))
    (case d2 => (refine' G.Dk.make ?_l ?_c ?_k; (case _l => k_is); (case _c => k_is); (case _k => k_is)))
    (case d3 => (refine' G.Dk.make ?_l ?_c ?_k; (case _l => k_is); (case _c => k_is); (case _k => k_is)))
    (case d4 => (refine' G.Dk.make ?_l ?_c ?_k; (case _l => k_is); (case _c => k_is); (case _k => k_is)))
    (case d5 => (refine' G.Dk.make ?_l ?_c ?_k; (case _l => k_is); (case _c => k_is); (case _k => k_is)))
    (case d6 => (refine' G.Dk.make ?_l ?_c ?_k; (case _l => k_is); (case _c => k_is); (case _k => k_is)))
    (case d7 => (refine' G.Dk.make ?_l ?_c ?_k; (case _l => k_is); (case _c => k_is); (case _k => k_is)))
    (case d8 => (refine' G.Dk.make ?_l ?_c ?_k; (case _l => k_is); (case _c => k_is); (case _k => k_is)))
    (case d9 => (refine' G.Dk.make ?_l ?_c ?_k; (case _l => k_is); (case _c => k_is); (case _k => k_is)))
    (case d10 => (refine' G.Dk.make ?_l ?_c ?_k; (case _l => k_is); (case _c => k_is); (case _k => k_is)))
    (case d11 => (refine' G.Dk.make ?_l ?_c ?_k; (case _l => k_is); (case _c => k_is); (case _k => k_is)))
    (case d12 => (refine' G.Dk.make ?_l ?_c ?_k; (case _l => k_is); (case _c => k_is); (case _k => k_is)))
    (case d13 => (refine' G.Dk.make ?_l ?_c ?_k; (case _l => k_is); (case _c => k_is); (case _k => k_is)))
    (case d14 => (refine' G.Dk.make ?_l ?_c ?_k; (case _l => k_is); (case _c => k_is); (case _k => k_is)))
    (case d15 => (refine' G.Dk.make ?_l ?_c ?_k; (case _l => k_is); (case _c => k_is); (case _k => k_is)))
    (case d16 => (refine' G.Dk.make ?_l ?_c ?_k; (case _l => k_is); (case _c => k_is); (case _k => k_is)))
    (case d17 => (refine' G.Dk.make ?_l ?_c ?_k; (case _l => k_is); (case _c => k_is); (case _k => k_is)))
    (case d18 => (refine' G.Dk.make ?_l ?_c ?_k; (case _l => k_is); (case _c => k_is); (case _k => k_is)))
    (case d19 => (refine' G.Dk.make ?_l ?_c ?_k; (case _l => k_is); (case _c => k_is); (case _k => k_is)))
    (case d20 => (refine' G.Dk.make ?_l ?_c ?_k; (case _l => k_is); (case _c => k_is); (case _k => k_is)))
    (case d21 => (refine' G.Dk.make ?_l ?_c ?_k; (case _l => k_is); (case _c => k_is); (case _k => k_is)))
    (case d22 => (refine' G.Dk.make ?_l ?_c ?_k; (case _l => k_is); (case _c => k_is); (case _k => k_is)))
    (case d23 => (refine' G.Dk.make ?_l ?_c ?_k; (case _l => k_is); (case _c => k_is); (case _k => k_is)))
    (case d24 => (refine' G.Dk.make ?_l ?_c ?_k; (case _l => k_is); (case _c => k_is); (case _k => k_is)))
    (case d25 => (refine' G.Dk.make ?_l ?_c ?_k; (case _l => k_is); (case _c => k_is); (case _k => k_is)))
    (case d26 => (refine' G.Dk.make ?_l ?_c ?_k; (case _l => k_is); (case _c => k_is); (case _k => k_is)))
    (case d27 => (refine' G.Dk.make ?_l ?_c ?_k; (case _l => k_is); (case _c => k_is); (case _k => k_is)))
    (case d28 => (refine' G.Dk.make ?_l ?_c ?_k; (case _l => k_is); (case _c => k_is); (case _k => k_is)))
    (case d29 => (refine' G.Dk.make ?_l ?_c ?_k; (case _l => k_is); (case _c => k_is); (case _k => k_is)))
    (case d30 => (refine' G.Dk.make ?_l ?_c ?_k; (case _l => k_is); (case _c => k_is); (case _k => k_is)))
    (case d31 => (refine' G.Dk.make ?_l ?_c ?_k; (case _l => k_is); (case _c => k_is); (case _k => k_is)))
    (case d32 => (refine' G.Dk.make ?_l ?_c ?_k; (case _l => k_is); (case _c => k_is); (case _k => k_is)))
    (case d33 => (refine' G.Dk.make ?_l ?_c ?_k; (case _l => k_is); (case _c => k_is); (case _k => k_is)))
    (case d34 => (refine' G.Dk.make ?_l ?_c ?_k; (case _l => k_is); (case _c => k_is); (case _k => k_is)))
    (case ae0 => k_is)
    (case ek0 => (refine' G.Ek1.make ?_a ?_b ?_c ?_d ?_e ?_f ?_g ?_h ?_i ?_j ?_k; (case _a => k_is); (case _b => first | rfl | decide +kernel); (case _c => k_is); (case _d => k_is); (case _e => k_is); (case _f => k_is); (case _g => k_is); (case _h => k_is); (case _i => k_is); (case _j => k_is); (case _k => k_is)))
    (case ik0 => (refine' G.Ik.make KX GG ?_a ?_b ?_c ?_d ?_e ?_f ?_g ?_h ?_i ?_j ?_k ?_l; (case _a => k_is); (case _b => k_is); (case _c => k_is); (case _d => rfl); (case _e => first | rfl | decide +kernel); (case _f => k_is); (case _g => ks_is); (case _h => first | k_is | rfl); (case _i => k_is); (case _j => k_is); (case _k => k_is); (case _l => first | rfl | decide +kernel)))
    (case en0_what => k_is)
    (case ae1 => k_is)
    (case ek1 => (refine' G.Ek1.make ?_a ?_b ?_c ?_d ?_e ?_f ?_g ?_h ?_i ?_j ?_k; (case _a => k_is); (case _b => first | rfl | decide +kernel); (case _c => k_is); (case _d => k_is); (case _e => k_is); (case _f => k_is); (case _g => k_is); (case _h => k_is); (case _i => k_is); (case _j => k_is); (case _k => k_is)))
    (case ik1 => (refine' G.Ik.make KX GG ?_a ?_b ?_c ?_d ?_e ?_f ?_g ?_h ?_i ?_j ?_k ?_l; (case _a => k_is); (case _b => k_is); (case _c => k_is); (case _d => rfl); (case _e => first | rfl | decide +kernel); (case _f => k_is); (case _g => ks_is); (case _h => first | k_is | rfl); (case _i => k_is); (case _j => k_is); (case _k => k_is); (case _l => first | rfl | decide +kernel)))
    (case en1_place => k_is)
    (case ae2 => k_is)
    (case ek2 => (refine' G.Ek1.make ?_a ?_b ?_c ?_d ?_e ?_f ?_g ?_h ?_i ?_j ?_k; (case _a => k_is); (case _b => first | rfl | decide +kernel); (case _c => k_is); (case _d => k_is); (case _e => k_is); (case _f => k_is); (case _g => k_is); (case _h => k_is); (case _i => k_is); (case _j => k_is); (case _k => k_is)))
    (case ik2 => (refine' G.Ik.make KX GG ?_a ?_b ?_c ?_d ?_e ?_f ?_g ?_h ?_i ?_j ?_k ?_l; (case _a => k_is); (case _b => k_is); (case _c => k_is); (case _d => rfl); (case _e => first | rfl | decide +kernel); (case _f => k_is); (case _g => ks_is); (case _h => first | k_is | rfl); (case _i => k_is); (case _j => k_is); (case _k => k_is); (case _l => first | rfl | decide +kernel)))
    (case en2_place => k_is)
    (case es0_0 => k_is)
    (case es0_1 => k_is)
    (case es0_2 => k_is)
    (case es1_0 => k_is)
    (case es1_1 => k_is)
    (case es1_2 => k_is)
    (case es2_0 => k_is)
    (case es2_1 => k_is)
    (case es2_2 => k_is)
    (case z_len => k_is)
    (case z_sum => k_is)
    (case z_max => k_is)
    (case z_min => k_is)
    (case z_abs => k_is)
    (case z_int => k_is)
    (case z_sorted => k_is)
    (case z_list => k_is)
    (case z_tuple => k_is)
    (case z_any => k_is)
    (case z_all => k_is)
    (case z_isinstance => k_is)
    (case z_range => k_is)
    (case z_bool => k_is)
    (case z_str => k_is)
