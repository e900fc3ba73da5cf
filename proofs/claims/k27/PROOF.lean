import PyProof.Rows.All
import Wide.All
import OpenK.AllK
import Wide.FinOn
import HandS.List
import HandS.ForMost
import HandS.TupAny
import HandS.SortInts
import HandS.IsInst
import HandS.Exc
import HandS.ExcOwn
import KE.KTupSum
import HandS.TryOnly
import HandS.TryMany
import HandS.ExcInit
import HandS.ExcField
import HandS.Conv
import HandS.WordsExc
import KE.KExcSuper
import HandS.ExcIs
import HandS.Ends
import KE.RegKSuper
import PySem.Challenge.RW_whoevercomes_k27_benches_kept_by_their_s
set_option Elab.async false
set_option linter.all false
set_option maxRecDepth 100000
/-! GCore -/
set_option maxRecDepth 100000
set_option maxHeartbeats 4000000
namespace G
open PySem (Str)

/-- data: lists are either plain (never changed again) or at a place of the store -/
inductive D where
  | non
  | bl (b : Bool)
  | int (i : Int)
  | str (x : Str)
  | tup (xs : List D)
  | lst (xs : List D)
  | scr (ns : List Int)
  | ptr (n : Nat)
  deriving Inhabited

/-- what stands at a place of the store -/
inductive Ob where
  | dead
  | lst (xs : List D)
  | ins (c : Nat) (fs : List (Nat × D))

abbrev Store := List Ob
abbrev Rho := List (Option D)

inductive Res (α : Type) where
  | ok (a : α) (M : Store)
  | err (c : Nat) (fs : List D) (M : Store)
  | stuck

def Res.bind {α β : Type} (r : Res α) (f : α → Store → Res β) : Res β :=
  match r with
  | .ok a M => f a M
  | .err c fs M => .err c fs M
  | .stuck => .stuck

@[simp] theorem bind_ok {α β : Type} (a : α) (M : Store) (f : α → Store → Res β) : (Res.ok a M).bind f = f a M := id rfl
@[simp] theorem bind_err {α β : Type} (c : Nat) (fs : List D) (M : Store) (f : α → Store → Res β) : (Res.err c fs M : Res α).bind f = .err c fs M := id rfl
@[simp] theorem bind_stuck {α β : Type} (f : α → Store → Res β) : (Res.stuck : Res α).bind f = .stuck := id rfl

/-- within a comprehension nothing may be raised -/
def Res.noerr {α : Type} : Res α → Res α
  | .err _ _ _ => .stuck
  | r => r
@[simp] theorem noerr_ok {α : Type} (a : α) (M : Store) : (Res.ok a M).noerr = .ok a M := id rfl
@[simp] theorem noerr_err {α : Type} (c : Nat) (fs : List D) (M : Store) : (Res.err c fs M : Res α).noerr = .stuck := id rfl
@[simp] theorem noerr_stuck {α : Type} : (Res.stuck : Res α).noerr = .stuck := id rfl

inductive Bop where
  | add | sub | mul | fdiv | mod | pow | band | bor | bxor | shl | shr
  deriving DecidableEq
inductive Cop where
  | lt | le | gt | ge | eq | ne | inn | nin
  deriving DecidableEq

/-- the items of a list, plain or in the store -/
def listOf (M : Store) : D → Option (List D)
  | .lst xs => some xs
  | .ptr n => match M[n]? with
    | some (.lst xs) => some xs
    | _ => none
  | _ => none
/-- .. of a list, a tuple, the script -/
def seqOf (M : Store) : D → Option (List D)
  | .lst xs => some xs
  | .tup xs => some xs
  | .scr ns => some (ns.map D.int)
  | .ptr n => match M[n]? with
    | some (.lst xs) => some xs
    | _ => none
  | _ => none
def intOf : D → Option Int
  | .int i => some i
  | _ => none
def intsOf : List D → Option (List Int)
  | [] => some []
  | .int i :: r => (intsOf r).map (i :: ·)
  | _ :: _ => none
@[simp] theorem intsOf_nil : intsOf [] = some [] := id rfl
@[simp] theorem intsOf_cons (i : Int) (r : List D) : intsOf (.int i :: r) = (intsOf r).map (i :: ·) := id rfl
@[simp] theorem intsOf_map (ns : List Int) : intsOf (ns.map D.int) = some ns := by
  induction ns with
  | nil => rfl
  | cons n r ih => rw [List.map_cons, intsOf_cons, ih]; rfl

/-- small enough and without store places, to be compared -/
def okd : Nat → D → Bool
  | _, .non => true
  | _, .bl _ => true
  | _, .int _ => true
  | _, .str x => PySem.PyData.strOk x
  | 0, .tup _ => false
  | 0, .lst _ => false
  | k + 1, .tup xs => xs.all (okd k)
  | k + 1, .lst xs => xs.all (okd k)
  | _, .scr _ => false
  | _, .ptr _ => false
mutual
def eqd : D → D → Bool
  | .non, .non => true
  | .bl a, .bl b => a == b
  | .bl a, .int j => (if a then 1 else 0) == j
  | .int i, .bl b => i == (if b then 1 else 0)
  | .int i, .int j => i == j
  | .str x, .str y => x == y
  | .lst xs, .lst ys => eqds xs ys
  | .tup xs, .tup ys => eqds xs ys
  | _, _ => false
def eqds : List D → List D → Bool
  | [], [] => true
  | x :: xs, y :: ys => eqd x y && eqds xs ys
  | _, _ => false
end
/-- a list of the store is compared by its items -/
def top (M : Store) : D → D
  | .ptr n => match M[n]? with
    | some (.lst xs) => .lst xs
    | _ => .ptr n
  | d => d
/-- flat things, for 'in' -/
def flatd : D → Bool
  | .non => true
  | .bl _ => true
  | .int _ => true
  | .str _ => true
  | _ => false
def flateq : D → D → Bool
  | .non, .non => true
  | .bl a, .bl b => a == b
  | .bl a, .int b => (if a then 1 else 0) == b
  | .int a, .bl b => a == (if b then 1 else 0)
  | .int a, .int b => a == b
  | .str a, .str b => a == b
  | _, _ => false

def big : Nat := PySem.sizeLine

def binop (o : Bop) (x y : D) (M : Store) : Res D :=
  match o, x, y with
  | .add, .int i, .int j => .ok (.int (i + j)) M
  | .sub, .int i, .int j => .ok (.int (i - j)) M
  | .mul, .int i, .int j => if (-18446744073709551616 < i ∧ i < 18446744073709551616) ∨ (-18446744073709551616 < j ∧ j < 18446744073709551616) then .ok (.int (i * j)) M else .stuck
  | .fdiv, .int i, .int j => if 0 < j ∧ j < 1073741824 then .ok (.int (i / j)) M else .stuck
  | .mod, .int i, .int j => if 0 < j then .ok (.int (i % j)) M else .stuck
  | .pow, .int i, .int j => if 0 ≤ j ∧ j ≤ 1000000 ∧ i.natAbs < 18446744073709551616 then .ok (.int (i ^ j.toNat)) M else .stuck
  | .shl, .int i, .int j => if 0 ≤ j ∧ j ≤ 1000000 ∧ i.natAbs < 18446744073709551616 then .ok (.int (i * 2 ^ j.toNat)) M else .stuck
  | .shr, .int i, .int j => if 0 ≤ j then .ok (.int (i / 2 ^ j.toNat)) M else .stuck
  | .band, .int i, .int j => .ok (.int (PySem.Builtin.bitAnd i j)) M
  | .bor, .int i, .int j => .ok (.int (PySem.Builtin.bitOr i j)) M
  | .bxor, .int i, .int j => .ok (.int (PySem.Builtin.bitXor i j)) M
  | .add, .str i, .str j => if i.length + j.length ≤ big then .ok (.str (i ++ j)) M else .stuck
  | .add, .tup xs, .tup ys => if xs.length + ys.length ≤ big then .ok (.tup (xs ++ ys)) M else .stuck
  | .add, x, y => match listOf M x, listOf M y with
    | some xs, some ys => if xs.length + ys.length ≤ big then .ok (.lst (xs ++ ys)) M else .stuck
    | _, _ => .stuck
  | .mul, x, .int k => match listOf M x with
    | some xs => if -16777216 ≤ k ∧ k ≤ 16777216 ∧ xs.length * k.toNat ≤ big then .ok (.lst (List.replicate k.toNat xs).flatten) M else .stuck
    | none => .stuck
  | _, _, _ => .stuck

def cmpop (o : Cop) (x y : D) (M : Store) : Res D :=
  match o, x, y with
  | .lt, .int i, .int j => .ok (.bl (decide (i < j))) M
  | .le, .int i, .int j => .ok (.bl (decide (i ≤ j))) M
  | .gt, .int i, .int j => .ok (.bl (decide (j < i))) M
  | .ge, .int i, .int j => .ok (.bl (decide (j ≤ i))) M
  | .eq, x, y => if okd 12 (top M x) ∧ okd 12 (top M y) then .ok (.bl (eqd (top M x) (top M y))) M else .stuck
  | .ne, x, y => if okd 12 (top M x) ∧ okd 12 (top M y) then .ok (.bl (!eqd (top M x) (top M y))) M else .stuck
  | .inn, x, y => match seqOf M y with
    | some ys => if flatd x ∧ ys.all flatd then .ok (.bl (ys.any fun y => flateq y x)) M else .stuck
    | none => .stuck
  | .nin, x, y => match seqOf M y with
    | some ys => if flatd x ∧ ys.all flatd then .ok (.bl (!(ys.any fun y => flateq y x))) M else .stuck
    | none => .stuck
  | _, _, _ => .stuck

/-- the truth of a value -/
def truth (M : Store) : D → Option Bool
  | .non => some false
  | .bl b => some b
  | .int i => some (i != 0)
  | .lst xs => some (!xs.isEmpty)
  | .tup xs => some (!xs.isEmpty)
  | .ptr n => match M[n]? with
    | some (.lst xs) => some (!xs.isEmpty)
    | _ => none
  | _ => none

def ixd (M : Store) (x i : D) : Res D :=
  match i with
  | .int i => match seqOf M x with
    | some xs => match L2.atI xs i with
      | some v => .ok v M
      | none => .stuck
    | none => .stuck
  | _ => .stuck
def cutd (xs : List D) (lo hi : Option Int) : List D := (xs.drop (HT.sIx xs.length 0 lo)).take (HT.sIx xs.length xs.length hi - HT.sIx xs.length 0 lo)
def sld (M : Store) (x : D) (lo hi : Option Int) : Res D :=
  match x with
  | .tup xs => .ok (.tup (cutd xs lo hi)) M
  | .scr ns => .ok (.lst (cutd (ns.map D.int) lo hi)) M
  | x => match listOf M x with
    | some xs => .ok (.lst (cutd xs lo hi)) M
    | none => .stuck

inductive Bi where
  | len | sum | max1 | min1 | max2 | min2 | abs | int | sorted | list (hot : Bool) | tuple | any | all
  deriving DecidableEq
/-- the greatest, the least -/
def maxOf (ns : List Int) : Option Int := ns.max?
def minOf (ns : List Int) : Option Int := ns.min?
def sortI (ns : List Int) : List Int := ns.mergeSort (fun a b => decide (a ≤ b))
def boolsOf : List D → Option (List Bool)
  | [] => some []
  | .bl i :: r => (boolsOf r).map (i :: ·)
  | _ :: _ => none
/-- a new list: plain, or at a new place -/
def newL (hot : Bool) (xs : List D) (M : Store) : Res D := if hot then .ok (.ptr M.length) (M ++ [.lst xs]) else .ok (.lst xs) M
def birun (f : Bi) (as : List D) (M : Store) : Res D :=
  match f, as with
  | .len, [x] => match seqOf M x with
    | some xs => .ok (.int xs.length) M
    | none => .stuck
  | .sum, [x] => match (seqOf M x).bind intsOf with
    | some ns => .ok (.int ns.sum) M
    | none => .stuck
  | .max1, [x] => match ((seqOf M x).bind intsOf).bind maxOf with
    | some m => .ok (.int m) M
    | none => .stuck
  | .min1, [x] => match ((seqOf M x).bind intsOf).bind minOf with
    | some m => .ok (.int m) M
    | none => .stuck
  | .max2, [.int i, .int j] => .ok (.int (if j > i then j else i)) M
  | .min2, [.int i, .int j] => .ok (.int (if j < i then j else i)) M
  | .abs, [.int i] => .ok (.int (if i < 0 then -i else i)) M
  | .int, [.int i] => .ok (.int i) M
  | .sorted, [x] => match (listOf M x).bind intsOf with
    | some ns => .ok (.lst ((sortI ns).map D.int)) M
    | none => .stuck
  | .list hot, [x] => match seqOf M x with
    | some xs => newL hot xs M
    | none => .stuck
  | .tuple, [x] => match seqOf M x with
    | some xs => .ok (.tup xs) M
    | none => .stuck
  | .any, [x] => match (listOf M x).bind boolsOf with
    | some bs => .ok (.bl (bs.any id)) M
    | none => .stuck
  | .all, [x] => match (listOf M x).bind boolsOf with
    | some bs => .ok (.bl (bs.all id)) M
    | none => .stuck
  | _, _ => .stuck

inductive Bm where
  | append | popAt | pop | index
  deriving DecidableEq
def bmrun (f : Bm) (o : D) (as : List D) (M : Store) : Res D :=
  match f, o, as with
  | .append, .ptr n, [y] => match M[n]? with
    | some (.lst xs) => if xs.length < big then .ok .non (M.set n (.lst (xs ++ [y]))) else .stuck
    | _ => .stuck
  | .popAt, .ptr n, [.int i] => match M[n]? with
    | some (.lst xs) => if 0 ≤ i ∧ i ≤ 16777216 ∧ i < xs.length then match xs[i.toNat]? with
        | some y => .ok y (M.set n (.lst (xs.eraseIdx i.toNat)))
        | none => .stuck
      else .stuck
    | _ => .stuck
  | .pop, .ptr n, [] => match M[n]? with
    | some (.lst xs) => match xs[xs.length - 1]? with
      | some y => .ok y (M.set n (.lst xs.dropLast))
      | none => .stuck
    | _ => .stuck
  | .index, x, [y] => match listOf M x with
    | some xs => if flatd y ∧ xs.all flatd then match xs.findIdx? fun z => flateq z y with
        | some j => .ok (.int j) M
        | none => .stuck
      else .stuck
    | none => .stuck
  | _, _, _ => .stuck

/-- the types of isinstance -/
inductive Ty where
  | int | bool | str | tuple | list
  deriving DecidableEq
def isTy (M : Store) (t : Ty) : D → Option Bool
  | .non => some false
  | .bl _ => some (match t with | .bool => true | .int => true | _ => false)
  | .int _ => some (match t with | .int => true | _ => false)
  | .str _ => some (match t with | .str => true | _ => false)
  | .tup _ => some (match t with | .tuple => true | _ => false)
  | .lst _ => some (match t with | .list => true | _ => false)
  | .scr _ => some (match t with | .list => true | _ => false)
  | .ptr n => match M[n]? with
    | some (.lst _) => some (match t with | .list => true | _ => false)
    | _ => none

inductive Gp where
  | n (i : Nat)
  | t (gs : List Nat)
mutual
inductive Xp where
  | non | bl (b : Bool) | int (i : Int) | str (x : Str)
  | v (i : Nat)
  | bin (o : Bop) (a b : Xp)
  | neg (a : Xp)
  | notV (a : Xp)
  | cmp (o : Cop) (a b : Xp)
  | chn (o p : Cop) (a b c : Xp)
  | isN (a : Xp)
  | notN (a : Xp)
  | andV (as : Xps)
  | orV (as : Xps)
  | ife (t : Tp) (a b : Xp)
  | call (f : Nat) (as : Xps)
  | mk (c : Nat) (as : Xps)
  | meth (o : Xp) (m : Nat) (as : Xps)
  | bi (f : Bi) (as : Xps)
  | bm (f : Bm) (o : Xp) (as : Xps)
  | isi (a : Xp) (t : Ty)
  | fld (o : Xp) (f : Nat)
  | ix (o i : Xp)
  | sl (o : Xp) (lo hi : Op)
  | tup (as : Xps)
  | lst (hot : Bool) (as : Xps)
  | lc (hot : Bool) (g : Gp) (it : Ip) (t : Tps) (e : Xp)
  | frz (e : Xp)
  | lrg (hot : Bool) (a : Xp)
inductive Xps where
  | nil | cons (e : Xp) (r : Xps)
inductive Op where
  | no | so (e : Xp)
inductive Tp where
  | val (e : Xp)
  | cmp (o : Cop) (a b : Xp)
  | chn (o p : Cop) (a b c : Xp)
  | isN (a : Xp)
  | notN (a : Xp)
  | tnot (t : Tp)
  | tand (ts : Tps)
  | tor (ts : Tps)
inductive Tps where
  | nil | cons (t : Tp) (r : Tps)
inductive Ip where
  | val (e : Xp)
  | rng1 (a : Xp)
  | rng2 (a b : Xp)
end

mutual
inductive Sm where
  | asg (g : Gp) (e : Xp)
  | asgF (o : Xp) (f : Nat) (e : Xp)
  | asgI (o i : Xp) (e : Xp)
  | aug (i : Nat) (o : Bop) (e : Xp)
  | augI (o i : Xp) (op : Bop) (e : Xp)
  | ex (e : Xp)
  | ite (t : Tp) (a b : Sms)
  | fo (g : Gp) (it : Ip) (b : Sms)
  | whl (t : Tp) (b : Sms)
  | ret (e : Xp)
  | retN
  | rais (c : Nat) (as : Xps)
  | brk | ctn | pass
  | par (i j : Nat) (a b : Xp)
  | nev
  | tr (b : Sms) (hs : List (Nat × Nat × Hx))
inductive Sms where
  | nil | cons (s : Sm) (r : Sms)
/-- what an except suite returns -/
inductive Hx where
  | non | bl (b : Bool) | int (i : Int) | str (x : Str) | v (i : Nat) | fld (f : Nat) | tup (as : Hxs)
inductive Hxs where
  | nil | cons (e : Hx) (r : Hxs)
end

/-- a def: its name (and qualified name), parameters, all names by slot, its body; trunc: what it laid is let go behind it -/
structure Fn where
  name : Str
  qual : Str
  glob : Bool
  np : Nat
  names : List Str
  body : Sms
  trunc : Bool
/-- a class: its name, its __init__, its methods by name -/
structure Cl where
  name : Str
  init : Nat
  flds : List Nat
  meths : List (Nat × Nat)
/-- an exception class: its name, its fields, the classes of the text above it (itself too) -/
structure Er where
  name : Str
  flds : List Nat
  ups : List Nat
structure Pg where
  fns : List Fn
  cls : List Cl
  ers : List Er
  nms : List Str

section
variable (P : Pg) (w : Nat) (cf : Nat → List D → Store → Res D)

/-- whether a class has this field -/
def hasF (c f : Nat) : Bool := match P.cls[c]? with
  | some k => k.flds.contains f
  | none => false
def setF (f : Nat) (v : D) : List (Nat × D) → List (Nat × D)
  | [] => [(f, v)]
  | (g, x) :: r => if g = f then (g, v) :: r else (g, x) :: setF f v r
def getF (f : Nat) : List (Nat × D) → Option D
  | [] => none
  | (g, x) :: r => if g = f then some x else getF f r
def findM (m : Nat) : List (Nat × Nat) → Option Nat
  | [] => none
  | (g, x) :: r => if g = m then some x else findM m r

def gslots : Gp → List Nat
  | .n i => [i]
  | .t is => is
/-- a comprehension's own names are unknown ahead of its target -/
def wipeR (ρ : Rho) : List Nat → Rho
  | [] => ρ
  | i :: is => (wipeR ρ is).set i none
def bindG (g : Gp) (d : D) (ρ : Rho) : Option Rho :=
  match g with
  | .n i => some (ρ.set i (some d))
  | .t gs => match d with
    | .tup xs => if xs.length = gs.length then some ((gs.zip xs).foldl (fun ρ p => ρ.set p.1 (some p.2)) ρ) else none
    | .lst xs => if xs.length = gs.length then some ((gs.zip xs).foldl (fun ρ p => ρ.set p.1 (some p.2)) ρ) else none
    | _ => none

/-- a comprehension's walk over items that stand still; acc: what is made so far -/
def lcA (f : D → Store → Res (Option D)) : List D → List D → Store → Res (List D)
  | [], acc, M => .ok acc M
  | x :: xs, acc, M => (f x M).bind fun o M1 => match o with
    | some y => if acc.length < big then lcA f xs (acc ++ [y]) M1 else .stuck
    | none => lcA f xs acc M1
/-- .. over a list of the store, as it stands at each turn -/
def lcH (n : Nat) (f : D → Store → Res (Option D)) : Nat → Nat → List D → Store → Res (List D)
  | 0, _, _, _ => .stuck
  | k + 1, i, acc, M => match M[n]? with
    | some (.lst xs) => match xs[i]? with
      | none => .ok acc M
      | some x => (f x M).bind fun o M1 => match o with
        | some y => if acc.length < big then lcH n f k (i + 1) (acc ++ [y]) M1 else .stuck
        | none => lcH n f k (i + 1) acc M1
    | _ => .stuck

/-- what is walked: items that stand still, or a list of the store -/
inductive Wk where
  | items (xs : List D)
  | hot (n : Nat)
def walkOf (M : Store) (d : D) : Option Wk :=
  match d with
  | .lst xs => some (.items xs)
  | .tup xs => some (.items xs)
  | .scr ns => some (.items (ns.map D.int))
  | .ptr n => match M[n]? with
    | some (.lst _) => some (.hot n)
    | _ => none
  | _ => none
def rngOf (lo hi : Int) : List D := (List.range (hi - lo).toNat).map fun (i : Nat) => D.int (lo + (i : Int))
def rngOk (lo hi : Int) : Bool := decide (-16777216 ≤ lo) && decide (lo ≤ 16777216) && decide (-16777216 ≤ hi) && decide (hi ≤ 16777216)

mutual
def runE (ρ : Rho) : Xp → Store → Res D
  | .non, M => .ok .non M
  | .bl b, M => .ok (.bl b) M
  | .int i, M => .ok (.int i) M
  | .str x, M => .ok (.str x) M
  | .v i, M => match ρ[i]? with
    | some (some d) => .ok d M
    | _ => .stuck
  | .bin o a b, M => (runE ρ a M).bind fun x M1 => (runE ρ b M1).bind fun y M2 => binop o x y M2
  | .neg a, M => (runE ρ a M).bind fun x M1 => match x with
    | .int i => .ok (.int (-i)) M1
    | _ => .stuck
  | .notV a, M => (runE ρ a M).bind fun x M1 => match x with
    | .bl b => .ok (.bl (!b)) M1
    | _ => .stuck
  | .cmp o a b, M => (runE ρ a M).bind fun x M1 => (runE ρ b M1).bind fun y M2 => cmpop o x y M2
  | .chn o p a b c, M => (runE ρ a M).bind fun x M1 => (runE ρ b M1).bind fun y M2 => (cmpop o x y M2).bind fun z M3 => match z with
    | .bl true => (runE ρ c M3).bind fun u M4 => cmpop p y u M4
    | .bl false => .ok (.bl false) M3
    | _ => .stuck
  | .isN a, M => (runE ρ a M).bind fun x M1 => .ok (.bl (match x with | .non => true | _ => false)) M1
  | .notN a, M => (runE ρ a M).bind fun x M1 => .ok (.bl (match x with | .non => false | _ => true)) M1
  | .andV as, M => runAnd ρ as M
  | .orV as, M => runOr ρ as M
  | .ife t a b, M => (runT ρ t M).bind fun k M1 => match k with
    | true => runE ρ a M1
    | false => runE ρ b M1
  | .call f as, M => (runA ρ as M).bind fun xs M1 => cf f xs M1
  | .mk c as, M => (runA ρ as M).bind fun xs M1 => match P.cls[c]? with
    | some k => (cf k.init (.ptr M1.length :: xs) (M1 ++ [.ins c []])).bind fun r M2 => match r with
      | .non => .ok (.ptr M1.length) M2
      | _ => .stuck
    | none => .stuck
  | .meth o m as, M => (runE ρ o M).bind fun x M1 => match x with
    | .ptr n => match M1[n]? with
      | some (.ins c fs) => match (P.cls[c]?).bind fun k => findM m k.meths with
        | some g => match getF m fs with
          | none => (runA ρ as M1).bind fun xs M2 => cf g (.ptr n :: xs) M2
          | some _ => .stuck
        | none => .stuck
      | _ => .stuck
    | _ => .stuck
  | .bi f as, M => (runA ρ as M).bind fun xs M1 => birun f xs M1
  | .bm f o as, M => (runE ρ o M).bind fun x M1 => match (listOf M1 x).isSome with
    | true => (runA ρ as M1).bind fun xs M2 => bmrun f x xs M2
    | false => .stuck
  | .isi a t, M => (runE ρ a M).bind fun x M1 => match isTy M1 t x with
    | some b => .ok (.bl b) M1
    | none => .stuck
  | .fld o f, M => (runE ρ o M).bind fun x M1 => match x with
    | .ptr n => match M1[n]? with
      | some (.ins c fs) => if hasF P c f then match getF f fs with
          | some v => .ok v M1
          | none => .stuck
        else .stuck
      | _ => .stuck
    | _ => .stuck
  | .ix o i, M => (runE ρ o M).bind fun x M1 => (runE ρ i M1).bind fun y M2 => ixd M2 x y
  | .sl o lo hi, M => (runE ρ o M).bind fun x M1 => (runO ρ lo M1).bind fun l M2 => (runO ρ hi M2).bind fun h M3 => sld M3 x l h
  | .tup as, M => (runA ρ as M).bind fun xs M1 => if xs.length ≤ big then .ok (.tup xs) M1 else .stuck
  | .lst hot as, M => (runA ρ as M).bind fun xs M1 => if xs.length ≤ big then newL hot xs M1 else .stuck
  | .lc hot g it t e, M => (runI ρ it M).bind fun k M1 =>
    (match k with
    | .items xs => lcA (fun x M => match bindG g x (wipeR ρ (gslots g)) with
      | some ρ' => ((runTs ρ' t M).noerr).bind fun b M2 => match b with
        | true => ((runE ρ' e M2).noerr).bind fun y M3 => .ok (some y) M3
        | false => .ok none M2
      | none => .stuck) xs [] M1
    | .hot n => lcH n (fun x M => match bindG g x (wipeR ρ (gslots g)) with
      | some ρ' => ((runTs ρ' t M).noerr).bind fun b M2 => match b with
        | true => ((runE ρ' e M2).noerr).bind fun y M3 => .ok (some y) M3
        | false => .ok none M2
      | none => .stuck) w 0 [] M1).bind fun ys M2 => newL hot ys M2
  | .frz e, M => (runE ρ e M).bind fun x M1 => match x with
    | .ptr n => match M1[n]? with
      | some (.lst xs) => .ok (.lst xs) (M1.set n .dead)
      | _ => .stuck
    | d => .ok d M1
  | .lrg hot a, M => (runE ρ a M).bind fun x M1 => match x with
    | .int i => if -16777216 ≤ i ∧ i ≤ 16777216 then newL hot (rngOf 0 i) M1 else .stuck
    | _ => .stuck
def runA (ρ : Rho) : Xps → Store → Res (List D)
  | .nil, M => .ok [] M
  | .cons e r, M => (runE ρ e M).bind fun x M1 => (runA ρ r M1).bind fun xs M2 => .ok (x :: xs) M2
def runO (ρ : Rho) : Op → Store → Res (Option Int)
  | .no, M => .ok none M
  | .so e, M => (runE ρ e M).bind fun x M1 => match x with
    | .int i => .ok (some i) M1
    | _ => .stuck
def runAnd (ρ : Rho) : Xps → Store → Res D
  | .nil, _ => .stuck
  | .cons e .nil, M => runE ρ e M
  | .cons e (.cons e2 r), M => (runE ρ e M).bind fun x M1 => match x with
    | .bl true => runAnd ρ (.cons e2 r) M1
    | .bl false => .ok (.bl false) M1
    | _ => .stuck
def runOr (ρ : Rho) : Xps → Store → Res D
  | .nil, _ => .stuck
  | .cons e .nil, M => runE ρ e M
  | .cons e (.cons e2 r), M => (runE ρ e M).bind fun x M1 => match x with
    | .bl false => runOr ρ (.cons e2 r) M1
    | .bl true => .ok (.bl true) M1
    | _ => .stuck
def runT (ρ : Rho) : Tp → Store → Res Bool
  | .val e, M => (runE ρ e M).bind fun x M1 => match truth M1 x with
    | some b => .ok b M1
    | none => .stuck
  | .cmp o a b, M => (runE ρ a M).bind fun x M1 => (runE ρ b M1).bind fun y M2 => (cmpop o x y M2).bind fun z M3 => match z with
    | .bl k => .ok k M3
    | _ => .stuck
  | .chn o p a b c, M => (runE ρ a M).bind fun x M1 => (runE ρ b M1).bind fun y M2 => (cmpop o x y M2).bind fun z M3 => match z with
    | .bl true => (runE ρ c M3).bind fun u M4 => (cmpop p y u M4).bind fun z M5 => match z with
      | .bl k => .ok k M5
      | _ => .stuck
    | .bl false => .ok false M3
    | _ => .stuck
  | .isN a, M => (runE ρ a M).bind fun x M1 => .ok (match x with | .non => true | _ => false) M1
  | .notN a, M => (runE ρ a M).bind fun x M1 => .ok (match x with | .non => false | _ => true) M1
  | .tnot t, M => (runT ρ t M).bind fun k M1 => .ok (!k) M1
  | .tand ts, M => runTs ρ ts M
  | .tor ts, M => runTo ρ ts M
def runTs (ρ : Rho) : Tps → Store → Res Bool
  | .nil, M => .ok true M
  | .cons t .nil, M => runT ρ t M
  | .cons t (.cons t2 r), M => (runT ρ t M).bind fun k M1 => match k with
    | true => runTs ρ (.cons t2 r) M1
    | false => .ok false M1
def runTo (ρ : Rho) : Tps → Store → Res Bool
  | .nil, M => .ok false M
  | .cons t .nil, M => runT ρ t M
  | .cons t (.cons t2 r), M => (runT ρ t M).bind fun k M1 => match k with
    | true => .ok true M1
    | false => runTo ρ (.cons t2 r) M1
def runI (ρ : Rho) : Ip → Store → Res Wk
  | .val e, M => (runE ρ e M).bind fun x M1 => match walkOf M1 x with
    | some k => .ok k M1
    | none => .stuck
  | .rng1 a, M => (runE ρ a M).bind fun x M1 => match x with
    | .int i => if rngOk 0 i then .ok (.items (rngOf 0 i)) M1 else .stuck
    | _ => .stuck
  | .rng2 a b, M => (runE ρ a M).bind fun x M1 => (runE ρ b M1).bind fun y M2 => match x, y with
    | .int i, .int j => if rngOk i j then .ok (.items (rngOf i j)) M2 else .stuck
    | _, _ => .stuck
end

inductive Fl where
  | nx (ρ : Rho)
  | rt (d : D)
  | bk (ρ : Rho)
  | ct (ρ : Rho)
  | er (c : Nat) (fs : List D) (ρ : Rho)
/-- a statement's end: how it goes on, with the store; none: stuck -/
abbrev Out := Option (Fl × Store)

/-- an expression within a statement -/
def withE {α : Type} (r : Res α) (ρ : Rho) (f : α → Store → Out) : Out :=
  match r with
  | .ok a M => f a M
  | .err c fs M => some (.er c fs ρ, M)
  | .stuck => none
@[simp] theorem withE_ok {α : Type} (a : α) (M : Store) (ρ : Rho) (f : α → Store → Out) : withE (.ok a M) ρ f = f a M := id rfl
@[simp] theorem withE_err {α : Type} (c : Nat) (fs : List D) (M : Store) (ρ : Rho) (f : α → Store → Out) : withE (.err c fs M : Res α) ρ f = some (.er c fs ρ, M) := id rfl
@[simp] theorem withE_stuck {α : Type} (ρ : Rho) (f : α → Store → Out) : withE (.stuck : Res α) ρ f = none := id rfl
/-- behind a statement that goes on -/
def andThen (o : Out) (f : Rho → Store → Out) : Out :=
  match o with
  | some (.nx ρ, M) => f ρ M
  | o => o
@[simp] theorem andThen_nx (ρ : Rho) (M : Store) (f : Rho → Store → Out) : andThen (some (.nx ρ, M)) f = f ρ M := id rfl
@[simp] theorem andThen_rt (d : D) (M : Store) (f : Rho → Store → Out) : andThen (some (.rt d, M)) f = some (.rt d, M) := id rfl
@[simp] theorem andThen_bk (ρ : Rho) (M : Store) (f : Rho → Store → Out) : andThen (some (.bk ρ, M)) f = some (.bk ρ, M) := id rfl
@[simp] theorem andThen_ct (ρ : Rho) (M : Store) (f : Rho → Store → Out) : andThen (some (.ct ρ, M)) f = some (.ct ρ, M) := id rfl
@[simp] theorem andThen_er (c : Nat) (fs : List D) (ρ : Rho) (M : Store) (f : Rho → Store → Out) : andThen (some (.er c fs ρ, M)) f = some (.er c fs ρ, M) := id rfl
@[simp] theorem andThen_none (f : Rho → Store → Out) : andThen none f = none := id rfl
/-- behind a loop's turn -/
def turn (o : Out) (go : Rho → Store → Out) : Out :=
  match o with
  | some (.nx ρ, M) => go ρ M
  | some (.ct ρ, M) => go ρ M
  | some (.bk ρ, M) => some (.nx ρ, M)
  | o => o
@[simp] theorem turn_nx (ρ : Rho) (M : Store) (f : Rho → Store → Out) : turn (some (.nx ρ, M)) f = f ρ M := id rfl
@[simp] theorem turn_rt (d : D) (M : Store) (f : Rho → Store → Out) : turn (some (.rt d, M)) f = some (.rt d, M) := id rfl
@[simp] theorem turn_bk (ρ : Rho) (M : Store) (f : Rho → Store → Out) : turn (some (.bk ρ, M)) f = some (.nx ρ, M) := id rfl
@[simp] theorem turn_ct (ρ : Rho) (M : Store) (f : Rho → Store → Out) : turn (some (.ct ρ, M)) f = f ρ M := id rfl
@[simp] theorem turn_er (c : Nat) (fs : List D) (ρ : Rho) (M : Store) (f : Rho → Store → Out) : turn (some (.er c fs ρ, M)) f = some (.er c fs ρ, M) := id rfl
@[simp] theorem turn_none (f : Rho → Store → Out) : turn none f = none := id rfl

def forL (f : D → Rho → Store → Out) : List D → Rho → Store → Out
  | [], ρ, M => some (.nx ρ, M)
  | x :: xs, ρ, M => turn (f x ρ M) fun ρ' M' => forL f xs ρ' M'
def forH (n : Nat) (f : D → Rho → Store → Out) : Nat → Nat → Rho → Store → Out
  | 0, _, _, _ => none
  | k + 1, i, ρ, M => match M[n]? with
    | some (.lst xs) => match xs[i]? with
      | none => some (.nx ρ, M)
      | some x => turn (f x ρ M) fun ρ' M' => forH n f k (i + 1) ρ' M'
    | _ => none
def whileL (c : Rho → Store → Res Bool) (f : Rho → Store → Out) : Nat → Rho → Store → Out
  | 0, _, _ => none
  | k + 1, ρ, M => withE (c ρ M) ρ fun b M1 => match b with
    | true => turn (f ρ M1) fun ρ' M' => whileL c f k ρ' M'
    | false => some (.nx ρ, M1)

def runH (ρ : Rho) (fl : List Nat) (fs : List D) : Hx → Option D
  | .non => some .non
  | .bl b => some (.bl b)
  | .int i => some (.int i)
  | .str x => some (.str x)
  | .v i => match ρ[i]? with
    | some (some d) => some d
    | _ => none
  | .fld f => getF f (fl.zip fs)
  | .tup as => (runHs ρ fl fs as).bind fun xs => if xs.length ≤ big then some (.tup xs) else none
where runHs (ρ : Rho) (fl : List Nat) (fs : List D) : Hxs → Option (List D)
  | .nil => some []
  | .cons e r => (runH ρ fl fs e).bind fun x => (runHs ρ fl fs r).map (x :: ·)

def handle (c : Nat) (fs : List D) (ρ : Rho) (M : Store) : List (Nat × Nat × Hx) → Out
  | [] => some (.er c fs ρ, M)
  | (k, i, h) :: r => match P.ers[c]? with
    | some e => if e.ups.contains k then (if i < ρ.length then match runH (ρ.set i none) e.flds fs h with
        | some d => some (.rt d, M)
        | none => none
      else none)
      else handle c fs ρ M r
    | none => none

mutual
def runS : Sm → Rho → Store → Out
  | .asg g e, ρ, M => withE (runE P w cf ρ e M) ρ fun d M1 => match bindG g d ρ with
    | some ρ' => some (.nx ρ', M1)
    | none => none
  | .asgF o f e, ρ, M => withE (runE P w cf ρ e M) ρ fun d M1 => withE (runE P w cf ρ o M1) ρ fun x M2 => match x with
    | .ptr n => match M2[n]? with
      | some (.ins c fs) => if hasF P c f ∧ fs.length < 900 then some (.nx ρ, M2.set n (.ins c (setF f d fs))) else none
      | _ => none
    | _ => none
  | .asgI o i e, ρ, M => withE (runE P w cf ρ e M) ρ fun d M1 => withE (runE P w cf ρ o M1) ρ fun x M2 => withE (runE P w cf ρ i M2) ρ fun y M3 => match x, y with
    | .ptr n, .int k => match M3[n]? with
      | some (.lst xs) => match L2.ixN xs.length k with
        | some j => some (.nx ρ, M3.set n (.lst (xs.set j d)))
        | none => none
      | _ => none
    | _, _ => none
  | .aug i o e, ρ, M => match ρ[i]? with
    | some (some x) => withE (runE P w cf ρ e M) ρ fun y M1 => match x, y with
      | .int a, .int b => match o with
        | .add => some (.nx (ρ.set i (some (.int (a + b)))), M1)
        | .sub => some (.nx (ρ.set i (some (.int (a - b)))), M1)
        | _ => none
      | _, _ => none
    | _ => none
  | .augI o i op e, ρ, M => withE (runE P w cf ρ o M) ρ fun x M1 => withE (runE P w cf ρ i M1) ρ fun y M2 => match x, y with
    | .ptr n, .int k => match M2[n]? with
      | some (.lst xs) => match L2.atI xs k with
        | some (.int a) => withE (runE P w cf ρ e M2) ρ fun z M3 => match z with
          | .int b => match M3[n]? with
            | some (.lst ys) => match L2.ixN ys.length k with
              | some j => match op with
                | .add => some (.nx ρ, M3.set n (.lst (ys.set j (.int (a + b)))))
                | .sub => some (.nx ρ, M3.set n (.lst (ys.set j (.int (a - b)))))
                | _ => none
              | none => none
            | _ => none
          | _ => none
        | _ => none
      | _ => none
    | _, _ => none
  | .ex e, ρ, M => withE (runE P w cf ρ e M) ρ fun _ M1 => some (.nx ρ, M1)
  | .ite t a b, ρ, M => withE (runT P w cf ρ t M) ρ fun k M1 => match k with
    | true => runSs a ρ M1
    | false => runSs b ρ M1
  | .fo g it b, ρ, M => withE (runI P w cf ρ it M) ρ fun k M1 => match k with
    | .items xs => forL (fun x ρ M => match bindG g x ρ with
      | some ρ' => runSs b ρ' M
      | none => none) xs ρ M1
    | .hot n => forH n (fun x ρ M => match bindG g x ρ with
      | some ρ' => runSs b ρ' M
      | none => none) w 0 ρ M1
  | .whl t b, ρ, M => whileL (fun ρ M => runT P w cf ρ t M) (fun ρ M => runSs b ρ M) w ρ M
  | .ret e, ρ, M => withE (runE P w cf ρ e M) ρ fun d M1 => some (.rt d, M1)
  | .retN, _, M => some (.rt .non, M)
  | .rais c as, ρ, M => withE (runA P w cf ρ as M) ρ fun xs M1 => match P.ers[c]? with
    | some e => if xs.length = e.flds.length then some (.er c xs.reverse ρ, M1) else none
    | none => none
  | .brk, ρ, M => some (.bk ρ, M)
  | .ctn, ρ, M => some (.ct ρ, M)
  | .pass, ρ, M => some (.nx ρ, M)
  | .par i j a b, ρ, M => withE (runE P w cf ρ a M) ρ fun x M1 => withE (runE P w cf ρ b M1) ρ fun y M2 => some (.nx ((ρ.set i (some x)).set j (some y)), M2)
  | .nev, _, _ => none
  | .tr b hs, ρ, M => match runSs b ρ M with
    | some (.er c fs ρ', M') => handle P c fs ρ' M' hs
    | o => o
def runSs : Sms → Rho → Store → Out
  | .nil, ρ, M => some (.nx ρ, M)
  | .cons s r, ρ, M => andThen (runS s ρ M) fun ρ' M' => runSs r ρ' M'
end
end

mutual
/-- all places are below k -/
def underD (k : Nat) : D → Bool
  | .ptr n => decide (n < k)
  | .tup xs => underDs k xs
  | .lst xs => underDs k xs
  | _ => true
def underDs (k : Nat) : List D → Bool
  | [] => true
  | x :: xs => underD k x && underDs k xs
end
def underO (k : Nat) : Ob → Bool
  | .dead => true
  | .lst xs => underDs k xs
  | .ins _ fs => fs.all fun p => underD k p.2
/-- what a call has laid may be let go: nothing that stays names it -/
def Cut (tr : Bool) (M M' : Store) (d : D) : Prop := tr = true ∧ underD M.length d = true ∧ (M'.take M.length = M ∨ (M'.take M.length).all (underO M.length) = true)
open Classical in
/-- a call's end -/
noncomputable def finish (tr : Bool) (M : Store) (o : Out) : Res D :=
  match o with
  | some (.rt d, M') => .ok d (if Cut tr M M' d then M'.take M.length else M')
  | some (.nx _, M') => .ok .non (if Cut tr M M' .non then M'.take M.length else M')
  | some (.er c fs _, M') => .err c fs M'
  | _ => .stuck

noncomputable def callF (P : Pg) (w : Nat) : Nat → Nat → List D → Store → Res D
  | 0, _, _, _ => .stuck
  | n + 1, f, as, M => match P.fns[f]? with
    | some k => if as.length = k.np then finish k.trunc M (runSs P w (callF P w n) k.body (as.map some ++ List.replicate (k.names.length - k.np) none) M) else .stuck
    | none => .stuck
end G

/-! GRep -/
set_option maxRecDepth 100000
set_option maxHeartbeats 4000000
namespace G
open PySem (Str)
open L2 (V HO Hp upd upd_same upd_ne SqL SqT Rd)

/-- what is fixed through the whole law: the written part, where the classes stand, the names by number -/
structure Gx where
  P : Pg
  K : PySem.W.Frag
  cl : Nat → PySem.Addr
def Gx.nm (X : Gx) (i : Nat) : Str := X.P.nms.getD i Str.empty

/-- where the store's objects stand; addresses that nobody reads or writes meanwhile -/
structure Am where
  ad : List PySem.Addr
  pv : PySem.Addr → Prop
def Am.add (al : Am) (p : PySem.Addr) : Am := ⟨al.ad ++ [p], al.pv⟩
def live (M : Store) (n : Nat) : Prop := ∃ o, M[n]? = some o ∧ o ≠ Ob.dead
def Hot (al : Am) (M : Store) (a : PySem.Addr) : Prop := (∃ n, live M n ∧ al.ad[n]? = some a) ∨ al.pv a
def Scr (K : PySem.W.Frag) (H : Hp) (a : PySem.Addr) (ns : List Int) : Prop :=
  (∃ o, H a = some (.frz o (.lst (ns.map V.int)))) ∨
    ∃ (o : PySem.Obj) (its : Array PySem.Value) (n : Nat), K.lookup a = some o ∧ o.cls = .type "list" ∧ o.dict = none ∧ o.data = .seq its n ∧ its.size ≤ PySem.sizeLine ∧ L2.Vals (ns.map V.int) its.toList
theorem Scr.sq {K : PySem.W.Frag} {H : Hp} {a : PySem.Addr} {ns : List Int} (h : Scr K H a ns) : SqL K H a (ns.map V.int) := by
  rcases h with ⟨o, h⟩ | h
  · exact .inl (.inr ⟨o, h⟩)
  · exact .inr h

mutual
def Rep (K : PySem.W.Frag) (H : Hp) (al : Am) (M : Store) : D → V → Prop
  | .non, v => v = .non
  | .bl b, v => v = .bl b
  | .int i, v => v = .int i
  | .str x, v => v = .str x
  | .tup ds, v => ∃ a vs, v = .ref a ∧ H a = some (.tup vs) ∧ Reps K H al M ds vs
  | .lst ds, v => ∃ a vs, v = .ref a ∧ H a = some (.lst vs) ∧ ¬ Hot al M a ∧ Reps K H al M ds vs
  | .scr ns, v => ∃ a, v = .ref a ∧ Scr K H a ns
  | .ptr n, v => ∃ a, v = .ref a ∧ al.ad[n]? = some a
def Reps (K : PySem.W.Frag) (H : Hp) (al : Am) (M : Store) : List D → List V → Prop
  | [], vs => vs = []
  | d :: ds, vs => ∃ v r, vs = v :: r ∧ Rep K H al M d v ∧ Reps K H al M ds r
end
theorem Reps.nil {K : PySem.W.Frag} {H : Hp} {al : Am} {M : Store} : Reps K H al M [] [] := by simp [Reps]
theorem Reps.cons {K : PySem.W.Frag} {H : Hp} {al : Am} {M : Store} {d : D} {ds : List D} {v : V} {vs : List V} (h : Rep K H al M d v) (t : Reps K H al M ds vs) : Reps K H al M (d :: ds) (v :: vs) := by
  rw [Reps]; exact ⟨v, vs, rfl, h, t⟩

/-- the attributes of an instance, in order -/
def Fsr (nm : Nat → Str) (K : PySem.W.Frag) (H : Hp) (al : Am) (M : Store) : List (Nat × D) → List (Str × V) → Prop
  | [], vs => vs = []
  | p :: ds, vs => ∃ v r, vs = (nm p.1, v) :: r ∧ Rep K H al M p.2 v ∧ Fsr nm K H al M ds r
def Obr (X : Gx) (H : Hp) (al : Am) (M : Store) : Ob → PySem.Addr → Prop
  | .dead, _ => True
  | .lst ds, a => ∃ vs, H a = some (.lst vs) ∧ Reps X.K H al M ds vs
  | .ins c fs, a => ∃ dx vfs, H a = some (.ins (X.cl c) dx vfs) ∧ Fsr X.nm X.K H al M fs vfs ∧ ∀ p ∈ fs, p.1 < X.P.nms.length
structure Sto (X : Gx) (H : Hp) (al : Am) (M : Store) : Prop where
  len : al.ad.length = M.length
  at_ : ∀ (n : Nat) o a, M[n]? = some o → al.ad[n]? = some a → Obr X H al M o a
  inj : ∀ (i j : Nat) a, live M i → live M j → al.ad[i]? = some a → al.ad[j]? = some a → i = j
  pvl : ∀ a, al.pv a → ∃ vs, H a = some (.lst vs)
  pvd : ∀ (n : Nat) a, live M n → al.ad[n]? = some a → ¬ al.pv a
structure Stp (H : Hp) (al : Am) (M : Store) (H' : Hp) (al' : Am) (M' : Store) : Prop where
  pre : ∃ more, al'.ad = al.ad ++ more
  pv : al'.pv = al.pv
  pvk : ∀ a, al.pv a → H' a = H a
  keep : ∀ a o, H a = some o → ¬ Hot al M a → H' a = some o
  dom : ∀ a, H a ≠ none → H' a ≠ none
  alive : ∀ (n : Nat), n < al.ad.length → live M' n → live M n
  new : ∀ (n : Nat) a, al.ad.length ≤ n → al'.ad[n]? = some a → H a = none
structure Envr (K : PySem.W.Frag) (H : Hp) (al : Am) (M : Store) (σ : L2.St) (ρ : Rho) : Prop where
  len : ρ.length = σ.length
  at_ : ∀ (i : Nat) d, ρ[i]? = some (some d) → ∃ v, σ[i]? = some (some v) ∧ Rep K H al M d v

section
variable {X : Gx} {K : PySem.W.Frag} {H H' H1 H2 : Hp} {al al' al1 al2 : Am} {M M' M1 M2 : Store} {a p : PySem.Addr} {n : Nat} {o : HO} {ob : Ob}
theorem live_lt (h : live M n) : n < M.length := by
  obtain ⟨o, e, _⟩ := h
  exact (List.getElem?_eq_some_iff.mp e).1
/-- what stands at a hot address -/
theorem Sto.hot (S : Sto X H al M) (h : Hot al M a) : (∃ vs, H a = some (.lst vs)) ∨ ∃ C dx fs, H a = some (.ins C dx fs) := by
  rcases h with ⟨n, ⟨o, e, hd⟩, ha⟩ | h
  · have := S.at_ n o a e ha
    cases o with
    | dead => exact absurd rfl hd
    | lst ds => obtain ⟨vs, e, _⟩ := this; exact .inl ⟨vs, e⟩
    | ins c fs => obtain ⟨dx, vfs, e, _⟩ := this; exact .inr ⟨_, dx, vfs, e⟩
  · exact .inl (S.pvl a h)
theorem Sto.ne (S : Sto X H al M) (h : Hot al M a) : H a ≠ none := by
  rcases S.hot h with ⟨_, e⟩ | ⟨_, _, _, e⟩ <;> rw [e] <;> simp
theorem Stp.refl : Stp H al M H al M := ⟨⟨[], by simp⟩, rfl, fun _ _ => rfl, fun _ _ e _ => e, fun _ h => h, fun _ _ h => h, fun n a hn e => by
  have := (List.getElem?_eq_some_iff.mp e).1; omega⟩
theorem Stp.get (s : Stp H al M H' al' M') {x : PySem.Addr} (h : al.ad[n]? = some x) : al'.ad[n]? = some x := by
  obtain ⟨more, e⟩ := s.pre
  rw [e, List.getElem?_append_left (List.getElem?_eq_some_iff.mp h).1]
  exact h
theorem Stp.nothot (s : Stp H al M H' al' M') (h : ¬ Hot al M a) (hs : H a ≠ none) : ¬ Hot al' M' a := by
  rintro (⟨n, hl, e⟩ | hp)
  · by_cases hn : n < al.ad.length
    · refine h (.inl ⟨n, s.alive n hn hl, ?_⟩)
      obtain ⟨more, e'⟩ := s.pre
      rw [e', List.getElem?_append_left hn] at e
      exact e
    · exact hs (s.new n a (Nat.le_of_not_lt hn) e)
  · exact h (.inr (by rw [← s.pv]; exact hp))
theorem Stp.trans (s : Stp H al M H1 al1 M1) (t : Stp H1 al1 M1 H2 al2 M2) : Stp H al M H2 al2 M2 := by
  obtain ⟨m1, e1⟩ := id s.pre
  obtain ⟨m2, e2⟩ := id t.pre
  refine ⟨⟨m1 ++ m2, by rw [e2, e1, List.append_assoc]⟩, t.pv.trans s.pv, fun a h => (t.pvk a (by rw [s.pv]; exact h)).trans (s.pvk a h), fun a o e h => ?_, fun a h => t.dom a (s.dom a h), fun n hn hl => ?_, fun n a hn e => ?_⟩
  · exact t.keep a o (s.keep a o e h) (s.nothot h (by rw [e]; simp))
  · refine s.alive n hn (t.alive n ?_ hl)
    rw [e1, List.length_append]; omega
  · by_cases h1 : n < al1.ad.length
    · have : al1.ad[n]? = some a := by
        rw [e2, List.getElem?_append_left h1] at e
        exact e
      exact s.new n a hn this
    · have h2 := t.new n a (Nat.le_of_not_lt h1) e
      cases q : H a with
      | none => rfl
      | some o => exact absurd h2 (s.dom a (by rw [q]; simp))

theorem Sto.tup_nothot (S : Sto X H al M) {vs : List V} (e : H a = some (.tup vs)) : ¬ Hot al M a := fun h => by
  rcases S.hot h with ⟨_, q⟩ | ⟨_, _, _, q⟩ <;> rw [e] at q <;> cases q
theorem Sto.frz_nothot (S : Sto X H al M) {ob : PySem.Obj} {u : HO} (e : H a = some (.frz ob u)) : ¬ Hot al M a := fun h => by
  rcases S.hot h with ⟨_, q⟩ | ⟨_, _, _, q⟩ <;> rw [e] at q <;> cases q
theorem Scr.mono (S : Sto X H al M) (s : Stp H al M H' al' M') {ns : List Int} (h : Scr K H a ns) : Scr K H' a ns := by
  rcases h with ⟨o, h⟩ | h
  · exact .inl ⟨o, s.keep a _ h (S.frz_nothot h)⟩
  · exact .inr h
mutual
theorem Rep.mono (S : Sto X H al M) (s : Stp H al M H' al' M') : ∀ (d : D) (v : V), Rep K H al M d v → Rep K H' al' M' d v
  | .non, _, h => by rw [Rep] at h ⊢; exact h
  | .bl _, _, h => by rw [Rep] at h ⊢; exact h
  | .int _, _, h => by rw [Rep] at h ⊢; exact h
  | .str _, _, h => by rw [Rep] at h ⊢; exact h
  | .tup ds, v, h => by
    rw [Rep] at h ⊢
    obtain ⟨a, vs, e, h1, h2⟩ := h
    exact ⟨a, vs, e, s.keep a _ h1 (S.tup_nothot h1), Reps.mono S s ds vs h2⟩
  | .lst ds, v, h => by
    rw [Rep] at h ⊢
    obtain ⟨a, vs, e, h1, h2, h3⟩ := h
    exact ⟨a, vs, e, s.keep a _ h1 h2, s.nothot h2 (by rw [h1]; simp), Reps.mono S s ds vs h3⟩
  | .scr ns, v, h => by
    rw [Rep] at h ⊢
    obtain ⟨a, e, h1⟩ := h
    exact ⟨a, e, h1.mono S s⟩
  | .ptr n, v, h => by
    rw [Rep] at h ⊢
    obtain ⟨a, e, h1⟩ := h
    exact ⟨a, e, s.get h1⟩
theorem Reps.mono (S : Sto X H al M) (s : Stp H al M H' al' M') : ∀ (ds : List D) (vs : List V), Reps K H al M ds vs → Reps K H' al' M' ds vs
  | [], _, h => by rw [Reps] at h ⊢; exact h
  | d :: ds, vs, h => by
    rw [Reps] at h ⊢
    obtain ⟨v, r, e, h1, h2⟩ := h
    exact ⟨v, r, e, Rep.mono S s d v h1, Reps.mono S s ds r h2⟩
end
theorem Fsr.mono {nm : Nat → Str} (S : Sto X H al M) (s : Stp H al M H' al' M') : ∀ (fs : List (Nat × D)) (vs : List (Str × V)), Fsr nm K H al M fs vs → Fsr nm K H' al' M' fs vs
  | [], _, h => h
  | p :: ds, vs, h => by
    obtain ⟨v, r, e, h1, h2⟩ := h
    exact ⟨v, r, e, Rep.mono S s _ v h1, Fsr.mono S s ds r h2⟩
theorem Envr.mono {σ : L2.St} {ρ : Rho} (S : Sto X H al M) (s : Stp H al M H' al' M') (h : Envr K H al M σ ρ) : Envr K H' al' M' σ ρ :=
  ⟨h.len, fun i d e => let ⟨v, e1, r⟩ := h.at_ i d e; ⟨v, e1, r.mono S s⟩⟩
theorem Envr.set {σ : L2.St} {ρ : Rho} {d : D} {v : V} (h : Envr K H al M σ ρ) (r : Rep K H al M d v) (i : Nat) : Envr K H al M (σ.set i (some v)) (ρ.set i (some d)) := by
  refine ⟨by simp [h.len], fun j d' e => ?_⟩
  by_cases hj : i = j
  · subst hj
    have hlt : i < ρ.length := by
      have := (List.getElem?_eq_some_iff.mp e).1; simpa using this
    rw [List.getElem?_set_self hlt] at e
    cases e
    exact ⟨v, by rw [List.getElem?_set_self (by rw [← h.len]; exact hlt)], r⟩
  · rw [List.getElem?_set_ne hj] at e
    rw [List.getElem?_set_ne hj]
    exact h.at_ j d' e
theorem Reps.length : ∀ {ds : List D} {vs : List V}, Reps K H al M ds vs → vs.length = ds.length
  | [], vs, h => by rw [Reps] at h; subst h; rfl
  | d :: ds, vs, h => by
    rw [Reps] at h
    obtain ⟨v, r, e, _, h2⟩ := h
    rw [e, List.length_cons, List.length_cons, Reps.length h2]
theorem Reps.get : ∀ {ds : List D} {vs : List V} {i : Nat} {d : D}, Reps K H al M ds vs → ds[i]? = some d → ∃ v, vs[i]? = some v ∧ Rep K H al M d v
  | [], _, _, _, _, e => by simp at e
  | d :: ds, vs, i, d', h, e => by
    rw [Reps] at h
    obtain ⟨v, r, e1, h1, h2⟩ := h
    subst e1
    cases i with
    | zero => simp at e; subst e; exact ⟨v, by simp, h1⟩
    | succ i =>
      obtain ⟨v', q1, q2⟩ := Reps.get (i := i) h2 (by simpa using e)
      exact ⟨v', by simpa using q1, q2⟩
theorem Reps.get' : ∀ {ds : List D} {vs : List V} {i : Nat} {v : V}, Reps K H al M ds vs → vs[i]? = some v → ∃ d, ds[i]? = some d ∧ Rep K H al M d v := fun {ds vs i v} h e => by
  have hl := h.length
  have hi := (List.getElem?_eq_some_iff.mp e).1
  have : i < ds.length := by omega
  obtain ⟨v', q1, q2⟩ := h.get (i := i) (d := ds[i]) (by simp [this])
  rw [e] at q1; cases q1
  exact ⟨_, by simp [this], q2⟩
theorem Reps.append : ∀ {ds es : List D} {vs ws : List V}, Reps K H al M ds vs → Reps K H al M es ws → Reps K H al M (ds ++ es) (vs ++ ws)
  | [], _, _, _, h, t => by rw [Reps] at h; subst h; simpa using t
  | d :: ds, es, vs, ws, h, t => by
    rw [Reps] at h
    obtain ⟨v, r, e, h1, h2⟩ := h
    subst e
    exact .cons h1 (Reps.append h2 t)
theorem Reps.take : ∀ {ds : List D} {vs : List V} (n : Nat), Reps K H al M ds vs → Reps K H al M (ds.take n) (vs.take n)
  | ds, vs, 0, h => by simpa using Reps.nil
  | [], vs, n + 1, h => by rw [Reps] at h; subst h; simpa using Reps.nil
  | d :: ds, vs, n + 1, h => by
    rw [Reps] at h
    obtain ⟨v, r, e, h1, h2⟩ := h
    subst e
    exact .cons h1 (Reps.take n h2)
theorem Reps.drop : ∀ {ds : List D} {vs : List V} (n : Nat), Reps K H al M ds vs → Reps K H al M (ds.drop n) (vs.drop n)
  | ds, vs, 0, h => by simpa using h
  | [], vs, n + 1, h => by rw [Reps] at h; subst h; simpa using Reps.nil
  | d :: ds, vs, n + 1, h => by
    rw [Reps] at h
    obtain ⟨v, r, e, h1, h2⟩ := h
    subst e
    simpa using Reps.drop n h2
theorem Reps.setl {d : D} {v : V} (r : Rep K H al M d v) : ∀ {ds : List D} {vs : List V} (n : Nat), Reps K H al M ds vs → Reps K H al M (ds.set n d) (vs.set n v)
  | [], vs, n, h => by rw [Reps] at h; subst h; simpa using Reps.nil
  | e :: ds, vs, n, h => by
    rw [Reps] at h
    obtain ⟨v', r', e', h1, h2⟩ := h
    subst e'
    cases n with
    | zero => exact .cons r h2
    | succ n => exact .cons h1 (Reps.setl r n h2)
theorem Reps.ints : ∀ {ns : List Int} {vs : List V}, Reps K H al M (ns.map D.int) vs → vs = ns.map V.int
  | [], vs, h => by simpa [Reps] using h
  | n :: ns, vs, h => by
    rw [List.map_cons, Reps] at h
    obtain ⟨v, r, e, h1, h2⟩ := h
    rw [Rep] at h1
    rw [e, h1, Reps.ints h2, List.map_cons]
theorem Reps.of_ints : ∀ (ns : List Int), Reps K H al M (ns.map D.int) (ns.map V.int)
  | [] => by simpa using Reps.nil
  | n :: ns => by rw [List.map_cons, List.map_cons]; exact .cons (by rw [Rep]) (Reps.of_ints ns)
theorem Reps.flatten : ∀ (k : Nat) {ds : List D} {vs : List V}, Reps K H al M ds vs → Reps K H al M (List.replicate k ds).flatten (List.replicate k vs).flatten
  | 0, _, _, _ => by simpa using Reps.nil
  | k + 1, _, _, h => by
    rw [List.replicate_succ, List.flatten_cons, List.replicate_succ, List.flatten_cons]
    exact h.append (Reps.flatten k h)
theorem Reps.dropLast {ds : List D} {vs : List V} (h : Reps K H al M ds vs) : Reps K H al M ds.dropLast vs.dropLast := by
  rw [List.dropLast_eq_take, List.dropLast_eq_take, h.length]; exact h.take _
theorem Reps.erase {ds : List D} {vs : List V} (h : Reps K H al M ds vs) (i : Nat) : Reps K H al M (ds.eraseIdx i) (vs.eraseIdx i) := by
  rw [List.eraseIdx_eq_take_drop_succ, List.eraseIdx_eq_take_drop_succ]; exact (h.take i).append (h.drop _)

theorem Obr.mono (S : Sto X H al M) (s : Stp H al M H' al' M') (h : Obr X H al M ob a) (e : H' a = H a) : Obr X H' al' M' ob a := by
  cases ob with
  | dead => trivial
  | lst ds => obtain ⟨vs, e1, r⟩ := h; exact ⟨vs, by rw [e, e1], r.mono S s⟩
  | ins c fs => obtain ⟨dx, vfs, e1, r, q⟩ := h; exact ⟨dx, vfs, by rw [e, e1], r.mono S s, q⟩
theorem live_set (h : live M n) (k : Nat) (hk : live (M.set n ob) k) : live M k := by
  by_cases e : n = k
  · subst e; exact h
  · obtain ⟨o, e1, d⟩ := hk
    rw [List.getElem?_set_ne e] at e1
    exact ⟨o, e1, d⟩
theorem Stp.chg (S : Sto X H al M) (h : live M n) (ha : al.ad[n]? = some a) : Stp H al M (upd H a o) al (M.set n ob) := by
  refine ⟨⟨[], by simp⟩, rfl, fun b hb => upd_ne (by rintro rfl; exact S.pvd n b h ha hb), fun b u e hb => ?_, fun b hb => ?_, fun k _ hk => live_set h k hk, fun k b hk e => ?_⟩
  · rw [upd_ne]; exact e
    rintro rfl; exact hb (.inl ⟨n, h, ha⟩)
  · by_cases q : b = a
    · subst q; rw [upd_same]; simp
    · rw [upd_ne q]; exact hb
  · have := (List.getElem?_eq_some_iff.mp e).1; omega
theorem Sto.chg (S : Sto X H al M) (h : live M n) (ha : al.ad[n]? = some a) (new : Obr X (upd H a o) al (M.set n ob) ob a) : Sto X (upd H a o) al (M.set n ob) := by
  have s : Stp H al M (L2.upd H a o) al (M.set n ob) := Stp.chg S h ha
  refine ⟨by simp [S.len], fun k u b e hb => ?_, fun i j b hi hj ei ej => S.inj i j b (live_set h i hi) (live_set h j hj) ei ej, fun b hb => ?_, fun i b hi e => S.pvd i b (live_set h i hi) e⟩
  · by_cases hk : n = k
    · subst hk
      rw [List.getElem?_set_self (live_lt h)] at e
      cases e
      rw [ha] at hb; cases hb
      exact new
    · rw [List.getElem?_set_ne hk] at e
      have old := S.at_ k u b e hb
      cases hu : u with
      | dead => trivial
      | _ =>
        refine (hu ▸ old).mono S s (upd_ne ?_)
        rintro rfl
        exact hk (S.inj n k b h ⟨u, e, by rw [hu]; simp⟩ ha hb)
  · obtain ⟨vs, e⟩ := S.pvl b hb
    exact ⟨vs, by rw [upd_ne (by rintro rfl; exact S.pvd n b h ha hb)]; exact e⟩
/-- the object at n is let go: it stays as it is -/
theorem Stp.drop (h : live M n) : Stp H al M H al (M.set n .dead) :=
  ⟨⟨[], by simp⟩, rfl, fun _ _ => rfl, fun _ _ e _ => e, fun _ h => h, fun k _ hk => live_set h k hk, fun k b hk e => by have := (List.getElem?_eq_some_iff.mp e).1; omega⟩
theorem Sto.drop (S : Sto X H al M) (h : live M n) : Sto X H al (M.set n .dead) := by
  have s : Stp H al M H al (M.set n .dead) := Stp.drop h
  refine ⟨by simp [S.len], fun k u b e hb => ?_, fun i j b hi hj ei ej => S.inj i j b (live_set h i hi) (live_set h j hj) ei ej, S.pvl, fun i b hi e => S.pvd i b (live_set h i hi) e⟩
  by_cases hk : n = k
  · subst hk
    rw [List.getElem?_set_self (live_lt h)] at e
    cases e
    trivial
  · rw [List.getElem?_set_ne hk] at e
    exact (S.at_ k u b e hb).mono S s rfl
theorem Sto.cold_of_drop (S : Sto X H al M) (h : live M n) (ha : al.ad[n]? = some a) : ¬ Hot al (M.set n .dead) a := by
  rintro (⟨k, hk, e⟩ | hp)
  · have : n = k := S.inj n k a h (live_set h k hk) ha e
    subst this
    obtain ⟨o, e1, d⟩ := hk
    rw [List.getElem?_set_self (live_lt h)] at e1
    cases e1
    exact d rfl
  · exact S.pvd n a h ha hp
theorem Sto.fresh_nothot (S : Sto X H al M) (hp : H p = none) : ¬ Hot al M p := fun h => S.ne h hp
theorem Sto.fresh_nopv (S : Sto X H al M) (hp : H p = none) : ¬ al.pv p := fun h => S.ne (.inr h) hp
theorem Stp.cold (S : Sto X H al M) (hp : H p = none) : Stp H al M (upd H p o) al M :=
  ⟨⟨[], by simp⟩, rfl, fun b hb => upd_ne (by rintro rfl; exact S.fresh_nopv hp hb), fun b u e _ => by rw [upd_ne (L2.ne_of_none e hp)]; exact e, fun b hb => by
    by_cases q : b = p
    · subst q; rw [upd_same]; simp
    · rw [upd_ne q]; exact hb, fun _ _ h => h, fun k b hk e => by have := (List.getElem?_eq_some_iff.mp e).1; omega⟩
theorem Sto.cold (S : Sto X H al M) (hp : H p = none) : Sto X (upd H p o) al M := by
  have s : Stp H al M (L2.upd H p o) al M := Stp.cold S hp
  refine ⟨S.len, fun k u b e hb => ?_, S.inj, fun b hb => ?_, S.pvd⟩
  · cases hu : u with
    | dead => trivial
    | _ =>
      refine (hu ▸ S.at_ k u b e hb).mono S s (upd_ne ?_)
      rintro rfl
      exact S.fresh_nothot hp (.inl ⟨k, ⟨u, e, by rw [hu]; simp⟩, hb⟩)
  · obtain ⟨vs, e⟩ := S.pvl b hb
    exact ⟨vs, by rw [upd_ne (by rintro rfl; exact S.fresh_nopv hp hb)]; exact e⟩
theorem live_app {k : Nat} (hk : k < M.length) : live (M ++ [ob]) k ↔ live M k := by
  unfold live
  rw [List.getElem?_append_left hk]
theorem add_get {k : Nat} {b : PySem.Addr} (e : (al.add p).ad[k]? = some b) : (k < al.ad.length ∧ al.ad[k]? = some b) ∨ (k = al.ad.length ∧ b = p) := by
  unfold Am.add at e
  by_cases hk : k < al.ad.length
  · rw [List.getElem?_append_left hk] at e; exact .inl ⟨hk, e⟩
  · have hl := (List.getElem?_eq_some_iff.mp e).1
    rw [List.length_append, List.length_singleton] at hl
    have : k = al.ad.length := by omega
    subst this
    simp at e
    exact .inr ⟨rfl, e.symm⟩
theorem Stp.alloc (S : Sto X H al M) (hp : H p = none) : Stp H al M (upd H p o) (al.add p) (M ++ [ob]) := by
  have c : Stp H al M (L2.upd H p o) al M := Stp.cold S hp
  refine ⟨⟨[p], rfl⟩, rfl, c.pvk, c.keep, c.dom, fun k hk h => (live_app (by rw [← S.len]; exact hk)).mp h, fun k b hk e => ?_⟩
  rcases add_get e with ⟨h1, _⟩ | ⟨_, rfl⟩
  · omega
  · exact hp
/-- an object at p is taken into the store -/
theorem Sto.take_in (S : Sto X H al M) (hpn : ∀ n, live M n → al.ad[n]? ≠ some p) (hpv : ¬ al.pv p) (mono : ∀ u b, u ≠ Ob.dead → Obr X H al M u b → b ≠ p → Obr X H' (al.add p) (M ++ [ob]) u b) (pvl : ∀ a, al.pv a → ∃ vs, H' a = some (.lst vs))
    (new : Obr X H' (al.add p) (M ++ [ob]) ob p) : Sto X H' (al.add p) (M ++ [ob]) := by
  have hS := S.len
  refine ⟨by simp [Am.add, S.len], fun k u b e hb => ?_, fun i j b hi hj ei ej => ?_, pvl, fun i b hi e => ?_⟩
  · rcases add_get hb with ⟨hk, hc⟩ | ⟨hk, hc⟩
    · rw [List.getElem?_append_left (by omega)] at e
      by_cases hu : u = .dead
      · subst hu; trivial
      · exact mono u b hu (S.at_ k u b e hc) (by rintro rfl; exact hpn k ⟨u, e, hu⟩ hc)
    · subst hc hk
      rw [hS] at e
      simp at e
      rw [← e]; exact new
  · rcases add_get ei with ⟨h1, e1⟩ | ⟨h1, e1⟩ <;> rcases add_get ej with ⟨h2, e2⟩ | ⟨h2, e2⟩
    · exact S.inj i j b ((live_app (by omega)).mp hi) ((live_app (by omega)).mp hj) e1 e2
    · subst e2; exact absurd e1 (hpn i ((live_app (by omega)).mp hi))
    · subst e1; exact absurd e2 (hpn j ((live_app (by omega)).mp hj))
    · rw [h1, h2]
  · rcases add_get e with ⟨h1, e1⟩ | ⟨h1, e1⟩
    · exact S.pvd i b ((live_app (by omega)).mp hi) e1
    · subst e1; exact hpv
theorem Sto.alloc (S : Sto X H al M) (hp : H p = none) (new : Obr X (upd H p o) (al.add p) (M ++ [ob]) ob p) : Sto X (upd H p o) (al.add p) (M ++ [ob]) := by
  have s : Stp H al M (L2.upd H p o) (al.add p) (M ++ [ob]) := Stp.alloc S hp
  refine S.take_in (fun n hn e => S.ne (.inl ⟨n, hn, e⟩) hp) (S.fresh_nopv hp) (fun u b hu h hb => h.mono S s (upd_ne hb)) (fun b hb => ?_) new
  obtain ⟨vs, e⟩ := S.pvl b hb
  exact ⟨vs, by rw [upd_ne (by rintro rfl; exact S.fresh_nopv hp hb)]; exact e⟩
/-- the same heap, fewer hot addresses -/
structure Reh (al : Am) (M : Store) (al' : Am) (M' : Store) : Prop where
  pre : ∃ more, al'.ad = al.ad ++ more
  hot : ∀ a, Hot al' M' a → Hot al M a
theorem Reh.get (s : Reh al M al' M') {x : PySem.Addr} (h : al.ad[n]? = some x) : al'.ad[n]? = some x := by
  obtain ⟨more, e⟩ := s.pre
  rw [e, List.getElem?_append_left (List.getElem?_eq_some_iff.mp h).1]
  exact h
mutual
theorem Rep.reh (s : Reh al M al' M') : ∀ (d : D) (v : V), Rep K H al M d v → Rep K H al' M' d v
  | .non, _, h => by rw [Rep] at h ⊢; exact h
  | .bl _, _, h => by rw [Rep] at h ⊢; exact h
  | .int _, _, h => by rw [Rep] at h ⊢; exact h
  | .str _, _, h => by rw [Rep] at h ⊢; exact h
  | .tup ds, v, h => by
    rw [Rep] at h ⊢
    obtain ⟨a, vs, e, h1, h2⟩ := h
    exact ⟨a, vs, e, h1, Reps.reh s ds vs h2⟩
  | .lst ds, v, h => by
    rw [Rep] at h ⊢
    obtain ⟨a, vs, e, h1, h2, h3⟩ := h
    exact ⟨a, vs, e, h1, fun q => h2 (s.hot _ q), Reps.reh s ds vs h3⟩
  | .scr ns, v, h => by rw [Rep] at h ⊢; exact h
  | .ptr n, v, h => by
    rw [Rep] at h ⊢
    obtain ⟨a, e, h1⟩ := h
    exact ⟨a, e, s.get h1⟩
theorem Reps.reh (s : Reh al M al' M') : ∀ (ds : List D) (vs : List V), Reps K H al M ds vs → Reps K H al' M' ds vs
  | [], _, h => by rw [Reps] at h ⊢; exact h
  | d :: ds, vs, h => by
    rw [Reps] at h ⊢
    obtain ⟨v, r, e, h1, h2⟩ := h
    exact ⟨v, r, e, Rep.reh s d v h1, Reps.reh s ds r h2⟩
end
theorem Fsr.reh {nm : Nat → Str} (s : Reh al M al' M') : ∀ (fs : List (Nat × D)) (vs : List (Str × V)), Fsr nm K H al M fs vs → Fsr nm K H al' M' fs vs
  | [], _, h => h
  | p :: ds, vs, h => by
    obtain ⟨v, r, e, h1, h2⟩ := h
    exact ⟨v, r, e, Rep.reh s _ v h1, Fsr.reh s ds r h2⟩
theorem Obr.reh (s : Reh al M al' M') (h : Obr X H al M ob a) : Obr X H al' M' ob a := by
  cases ob with
  | dead => trivial
  | lst ds => obtain ⟨vs, e1, r⟩ := h; exact ⟨vs, e1, Reps.reh s _ _ r⟩
  | ins c fs => obtain ⟨dx, vfs, e1, r, q⟩ := h; exact ⟨dx, vfs, e1, Fsr.reh s _ _ r, q⟩
theorem Envr.reh {σ : L2.St} {ρ : Rho} (s : Reh al M al' M') (h : Envr K H al M σ ρ) : Envr K H al' M' σ ρ :=
  ⟨h.len, fun i d e => let ⟨v, e1, r⟩ := h.at_ i d e; ⟨v, e1, Rep.reh s _ _ r⟩⟩
/-- what was laid behind a place is let go -/
theorem live_take {n k : Nat} (h : live (M.take n) k) : live M k := by
  obtain ⟨o, e, d⟩ := h
  refine ⟨o, ?_, d⟩
  by_cases hk : k < n
  · rwa [List.getElem?_take_of_lt hk] at e
  · rw [List.getElem?_take_eq_none (Nat.le_of_not_lt hk)] at e; cases e
mutual
/-- what is under the older places' number stands in the older store -/
theorem Rep.cut (Hn : ∀ a, Hot al' M' a → Hot al M a) (pre : ∀ (n : Nat) a, n < al'.ad.length → al.ad[n]? = some a → al'.ad[n]? = some a) : ∀ (d : D) (v : V), underD al'.ad.length d = true → Rep K H al M d v → Rep K H al' M' d v
  | .non, _, _, h => by rw [Rep] at h ⊢; exact h
  | .bl _, _, _, h => by rw [Rep] at h ⊢; exact h
  | .int _, _, _, h => by rw [Rep] at h ⊢; exact h
  | .str _, _, _, h => by rw [Rep] at h ⊢; exact h
  | .tup ds, v, p, h => by
    rw [Rep] at h ⊢
    obtain ⟨a, vs, e, h1, h2⟩ := h
    exact ⟨a, vs, e, h1, Reps.cut Hn pre ds vs (by simpa [underD] using p) h2⟩
  | .lst ds, v, p, h => by
    rw [Rep] at h ⊢
    obtain ⟨a, vs, e, h1, h2, h3⟩ := h
    exact ⟨a, vs, e, h1, fun q => h2 (Hn _ q), Reps.cut Hn pre ds vs (by simpa [underD] using p) h3⟩
  | .scr ns, v, _, h => by rw [Rep] at h ⊢; exact h
  | .ptr n, v, p, h => by
    rw [Rep] at h ⊢
    obtain ⟨a, e, h1⟩ := h
    exact ⟨a, e, pre n a (by simpa [underD] using p) h1⟩
theorem Reps.cut (Hn : ∀ a, Hot al' M' a → Hot al M a) (pre : ∀ (n : Nat) a, n < al'.ad.length → al.ad[n]? = some a → al'.ad[n]? = some a) : ∀ (ds : List D) (vs : List V), underDs al'.ad.length ds = true → Reps K H al M ds vs → Reps K H al' M' ds vs
  | [], _, _, h => by rw [Reps] at h ⊢; exact h
  | d :: ds, vs, p, h => by
    rw [Reps] at h ⊢
    obtain ⟨v, r, e, h1, h2⟩ := h
    rw [underDs, Bool.and_eq_true] at p
    exact ⟨v, r, e, Rep.cut Hn pre d v p.1 h1, Reps.cut Hn pre ds r p.2 h2⟩
end
theorem Fsr.cut {nm : Nat → Str} (Hn : ∀ a, Hot al' M' a → Hot al M a) (pre : ∀ (n : Nat) a, n < al'.ad.length → al.ad[n]? = some a → al'.ad[n]? = some a) : ∀ (fs : List (Nat × D)) (vs : List (Str × V)), (fs.all fun p => underD al'.ad.length p.2) = true → Fsr nm K H al M fs vs → Fsr nm K H al' M' fs vs
  | [], _, _, h => h
  | p :: ds, vs, u, h => by
    obtain ⟨v, r, e, h1, h2⟩ := h
    rw [List.all_cons, Bool.and_eq_true] at u
    exact ⟨v, r, e, Rep.cut Hn pre _ v u.1 h1, Fsr.cut Hn pre ds r u.2 h2⟩
theorem Obr.cut (Hn : ∀ a, Hot al' M' a → Hot al M a) (pre : ∀ (n : Nat) a, n < al'.ad.length → al.ad[n]? = some a → al'.ad[n]? = some a) (u : underO al'.ad.length ob = true) (h : Obr X H al M ob a) : Obr X H al' M' ob a := by
  cases ob with
  | dead => trivial
  | lst ds => obtain ⟨vs, e1, r⟩ := h; exact ⟨vs, e1, Reps.cut Hn pre _ _ (by simpa [underO] using u) r⟩
  | ins c fs => obtain ⟨dx, vfs, e1, r, q⟩ := h; exact ⟨dx, vfs, e1, Fsr.cut Hn pre _ _ (by simpa [underO] using u) r, q⟩
mutual
theorem Rep.under : ∀ (d : D) (v : V), Rep K H al M d v → underD al.ad.length d = true
  | .non, _, _ => rfl
  | .bl _, _, _ => rfl
  | .int _, _, _ => rfl
  | .str _, _, _ => rfl
  | .tup ds, v, h => by
    rw [Rep] at h
    obtain ⟨a, vs, e, h1, h2⟩ := h
    simpa [underD] using Reps.under ds vs h2
  | .lst ds, v, h => by
    rw [Rep] at h
    obtain ⟨a, vs, e, h1, h2, h3⟩ := h
    simpa [underD] using Reps.under ds vs h3
  | .scr ns, v, _ => rfl
  | .ptr n, v, h => by
    rw [Rep] at h
    obtain ⟨a, e, h1⟩ := h
    simpa [underD] using (List.getElem?_eq_some_iff.mp h1).1
theorem Reps.under : ∀ (ds : List D) (vs : List V), Reps K H al M ds vs → underDs al.ad.length ds = true
  | [], _, _ => rfl
  | d :: ds, vs, h => by
    rw [Reps] at h
    obtain ⟨v, r, e, h1, h2⟩ := h
    rw [underDs, Rep.under d v h1, Reps.under ds r h2]; rfl
end
theorem Fsr.under {nm : Nat → Str} : ∀ (fs : List (Nat × D)) (vs : List (Str × V)), Fsr nm K H al M fs vs → (fs.all fun p => underD al.ad.length p.2) = true
  | [], _, _ => rfl
  | p :: ds, vs, h => by
    obtain ⟨v, r, e, h1, h2⟩ := h
    rw [List.all_cons, Rep.under _ v h1, Fsr.under ds r h2]; rfl
theorem Obr.under (h : Obr X H al M ob a) : underO al.ad.length ob = true := by
  cases ob with
  | dead => rfl
  | lst ds => obtain ⟨vs, e1, r⟩ := h; exact Reps.under _ _ r
  | ins c fs => obtain ⟨dx, vfs, e1, r, q⟩ := h; exact Fsr.under _ _ r
/-- behind a call: what it has laid is let go -/
theorem cut_ok (S : Sto X H al M) (s : Stp H al M H' al' M') (S' : Sto X H' al' M') (c : M'.take M.length = M ∨ (M'.take M.length).all (underO M.length) = true) :
    Stp H al M H' al (M'.take M.length) ∧ Sto X H' al (M'.take M.length) ∧ ∀ d v, underD M.length d = true → Rep X.K H' al' M' d v → Rep X.K H' al (M'.take M.length) d v := by
  obtain ⟨more, hm⟩ := id s.pre
  have hl : M.length ≤ M'.length := by rw [← S.len, ← S'.len, hm, List.length_append]; omega
  have get : ∀ {n : Nat} {a}, al.ad[n]? = some a → al'.ad[n]? = some a := fun h => s.get h
  have pre : ∀ (n : Nat) a, n < al.ad.length → al'.ad[n]? = some a → al.ad[n]? = some a := fun n a hn e => by
    rw [hm, List.getElem?_append_left hn] at e; exact e
  have Hn : ∀ a, Hot al (M'.take M.length) a → Hot al' M' a := fun a h => by
    rcases h with ⟨n, hn, e⟩ | h
    · exact .inl ⟨n, live_take hn, get e⟩
    · exact .inr (by rw [s.pv]; exact h)
  have lt : ∀ {n : Nat}, live (M'.take M.length) n → n < al.ad.length := fun h => by
    have := live_lt h
    rw [List.length_take] at this
    rw [S.len]; omega
  refine ⟨⟨⟨[], by simp⟩, rfl, s.pvk, s.keep, s.dom, fun n hn h => s.alive n hn (live_take h), fun n a hn e => by have := (List.getElem?_eq_some_iff.mp e).1; omega⟩, ⟨?_, fun n o a e ha => ?_, fun i j a hi hj ei ej => S'.inj i j a (live_take hi) (live_take hj) (get ei) (get ej), fun a ha => S'.pvl a (by rw [s.pv]; exact ha), fun i a hi e hp => S'.pvd i a (live_take hi) (get e) (by rw [s.pv]; exact hp)⟩, fun d v u r => Rep.cut Hn pre d v (by rw [S.len]; exact u) r⟩
  · rw [List.length_take, S.len]; omega
  · have e' : M'[n]? = some o := by
      by_cases hn : n < M.length
      · rw [List.getElem?_take_of_lt hn] at e; exact e
      · rw [List.getElem?_take_eq_none (Nat.le_of_not_lt hn)] at e; cases e
    refine (S'.at_ n o a e' (get ha)).cut Hn pre ?_
    rcases c with c | c
    · rw [c] at e
      exact (S.at_ n o a e ha).under
    · rw [S.len]
      exact List.all_eq_true.mp c o (List.mem_of_getElem? e)
end
end G

/-! GExp -/
set_option maxRecDepth 100000
set_option maxHeartbeats 4000000
namespace G
open PySem (Str)
open L2 (V HO Hp upd upd_same upd_ne SqL SqT Rd WX VK TE TT TA TO R2)

section
variable {α β γ δ : Type}
abbrev Rl (α β : Type) := Hp → Am → Store → α → β → Prop
/-- how an exception's fields lie -/
def Xfs (nm : Nat → Str) (K : PySem.W.Frag) (H : Hp) (al : Am) (M : Store) (fl : List Nat) (fs : List D) (vfs : List (Str × V)) : Prop := fs.length = fl.length ∧ Fsr nm K H al M (fl.zip fs) vfs
/-- the class objects of the exceptions -/
structure Gy extends Gx where
  ec : Nat → PySem.Addr
def Exr (X : Gy) (H : Hp) (al : Am) (M : Store) (c : Nat) (fs : List D) (cls : PySem.Value) (dd : Option PySem.Addr) : Prop :=
  ∃ e d vfs, X.P.ers[c]? = some e ∧ cls = .ref (X.ec c) ∧ dd = some d ∧ H d = some (.xd vfs) ∧ Xfs X.nm X.K H al M e.flds fs vfs
/-- what is wanted of a run's end -/
def Po (X : Gy) (R : Rl α β) (W : WX) (σ : L2.St) (H : Hp) (al : Am) (M : Store) (Q : β → Hp → Prop) (r : Res α) : Prop :=
  match r with
  | .ok a M' => ∀ al' H' v, Stp H al M H' al' M' → Sto X.toGx H' al' M' → R H' al' M' a v → Q v H'
  | .err c fs M' => ∀ al' H' cls dd, Stp H al M H' al' M' → Sto X.toGx H' al' M' → Exr X H' al' M' c fs cls dd → W cls dd σ H'
  | .stuck => False
def tG (X : Gy) (R : Rl α β) (W : WX) (f : Rho → Store → Res α) : L2.St → Hp → (β → Hp → Prop) → Prop := fun σ H Q =>
  ∃ al ρ M, Sto X.toGx H al M ∧ Envr X.K H al M σ ρ ∧ Po X R W σ H al M Q (f ρ M)
def rE (X : Gy) : Rl D V := fun H al M d v => Rep X.K H al M d v
def rA (X : Gy) : Rl (List D) (List V) := fun H al M d v => Reps X.K H al M d v
def rId : Rl α α := fun _ _ _ a b => a = b
abbrev tE (X : Gy) (W : WX) (f : Rho → Store → Res D) : TE := tG X (rE X) W f
abbrev tA (X : Gy) (W : WX) (f : Rho → Store → Res (List D)) : TA := tG X (rA X) W f
abbrev tT (X : Gy) (W : WX) (f : Rho → Store → Res Bool) : TT := tG X rId W f
abbrev tO (X : Gy) (W : WX) (f : Rho → Store → Res (Option Int)) : TO := tG X rId W f

variable {X : Gy} {R : Rl α β} {R2 : Rl γ δ} {W : WX} {σ : L2.St} {H H1 : Hp} {al al1 : Am} {M M1 : Store}
theorem Po.step {Q : β → Hp → Prop} {r : Res α} (h : Po X R W σ H al M Q r) (s : Stp H al M H1 al1 M1) : Po X R W σ H1 al1 M1 Q r := by
  cases r with
  | ok a M' => exact fun al' H' v s' S r => h al' H' v (s.trans s') S r
  | err c fs M' => exact fun al' H' cls dd s' S r => h al' H' cls dd (s.trans s') S r
  | stuck => exact h
theorem Po.mono {Q Q' : β → Hp → Prop} {r : Res α} (h : Po X R W σ H al M Q r) (hq : ∀ v H', Q v H' → Q' v H') : Po X R W σ H al M Q' r := by
  cases r with
  | ok a M' => exact fun al' H' v s' S r => hq _ _ (h al' H' v s' S r)
  | err c fs M' => exact h
  | stuck => exact h
theorem Po.ok {Q : β → Hp → Prop} {a : α} {v : β} (S : Sto X.toGx H al M) (h : Po X R W σ H al M Q (.ok a M)) (r : R H al M a v) : Q v H := h al H v Stp.refl S r
/-- what the second part asks, behind the first one -/
def Nxt (X : Gy) (R : Rl α β) (R2 : Rl γ δ) (W : WX) (σ : L2.St) (H : Hp) (al : Am) (M : Store) (Q : δ → Hp → Prop) (g : α → Store → Res γ) : β → Hp → Prop := fun x H1 =>
  ∃ al1 M1 a, Stp H al M H1 al1 M1 ∧ Sto X.toGx H1 al1 M1 ∧ R H1 al1 M1 a x ∧ Po X R2 W σ H1 al1 M1 Q (g a M1)
theorem Po.bind {Q : δ → Hp → Prop} {r : Res α} {g : α → Store → Res γ} (h : Po X R2 W σ H al M Q (r.bind g)) : Po X R W σ H al M (Nxt X R R2 W σ H al M Q g) r := by
  cases r with
  | ok a M' => exact fun al' H' v s S r => ⟨al', M', a, s, S, r, Po.step h s⟩
  | err c fs M' => exact h
  | stuck => exact h
/-- one operand -/
theorem tG_one {Q : δ → Hp → Prop} {f : Rho → Store → Res α} {g : α → Store → Res γ} (h : tG X R2 W (fun ρ M => (f ρ M).bind g) σ H Q) :
    tG X R W f σ H (fun x H1 => ∃ al M a, Sto X.toGx H1 al M ∧ R H1 al M a x ∧ Po X R2 W σ H1 al M Q (g a M)) := by
  obtain ⟨al, ρ, M, S, E, p⟩ := h
  refine ⟨al, ρ, M, S, E, p.bind.mono ?_⟩
  rintro v H' ⟨al1, M1, a, _, S1, r, p1⟩
  exact ⟨al1, M1, a, S1, r, p1⟩
end

section
variable {X : Gy} {W : WX} {σ : L2.St} {H : Hp} {al : Am} {M : Store}
/-- two operands -/
theorem tG_two {γ δ : Type} {R2 : Rl γ δ} {Q : δ → Hp → Prop} {f g : Rho → Store → Res D} {k : D → D → Store → Res γ} (h : tG X R2 W (fun ρ M => (f ρ M).bind fun x M1 => (g ρ M1).bind fun y M2 => k x y M2) σ H Q) :
    tE X W f σ H (fun x H1 => tE X W g σ H1 (fun y H2 => ∃ al M a b, Sto X.toGx H2 al M ∧ Rep X.K H2 al M a x ∧ Rep X.K H2 al M b y ∧ Po X R2 W σ H2 al M Q (k a b M))) := by
  obtain ⟨al, ρ, M, S, E, p⟩ := h
  refine ⟨al, ρ, M, S, E, p.bind.mono ?_⟩
  rintro v H1 ⟨al1, M1, a, s1, S1, r1, p1⟩
  refine ⟨al1, ρ, M1, S1, E.mono S s1, p1.bind.mono ?_⟩
  rintro y H2 ⟨al2, M2, b, s2, S2, r2, p2⟩
  exact ⟨al2, M2, a, b, S2, Rep.mono S1 s2 _ _ r1, r2, p2⟩
/-- one operand, then the same slots -/
theorem tG_then {α β γ δ : Type} {R : Rl α β} {R2 : Rl γ δ} {Q : δ → Hp → Prop} {f : Rho → Store → Res α} {g : Rho → α → Store → Res γ} (h : tG X R2 W (fun ρ M => (f ρ M).bind fun a M1 => g ρ a M1) σ H Q) :
    tG X R W f σ H (fun x H1 => ∃ al ρ M a, Sto X.toGx H1 al M ∧ Envr X.K H1 al M σ ρ ∧ R H1 al M a x ∧ Po X R2 W σ H1 al M Q (g ρ a M)) := by
  obtain ⟨al, ρ, M, S, E, p⟩ := h
  refine ⟨al, ρ, M, S, E, p.bind.mono ?_⟩
  rintro v H' ⟨al1, M1, a, s1, S1, r, p1⟩
  exact ⟨al1, ρ, M1, a, S1, E.mono S s1, r, p1⟩

/-- a new plain object -/
theorem Po.newT {Q : VK} {ds : List D} {vs : List V} {p : PySem.Addr} (S : Sto X.toGx H al M) (r : Reps X.K H al M ds vs) (hp : H p = none) (h : Po X (rE X) W σ H al M Q (.ok (.tup ds) M)) : Q (.ref p) (upd H p (.tup vs)) := by
  refine h al _ _ (Stp.cold S hp) (S.cold hp) ?_
  show Rep _ _ _ _ _ _
  rw [Rep]
  exact ⟨p, vs, rfl, upd_same, Reps.mono S (Stp.cold S hp) _ _ r⟩
theorem Po.newC {Q : VK} {ds : List D} {vs : List V} {p : PySem.Addr} (S : Sto X.toGx H al M) (r : Reps X.K H al M ds vs) (hp : H p = none) (h : Po X (rE X) W σ H al M Q (.ok (.lst ds) M)) : Q (.ref p) (upd H p (.lst vs)) := by
  refine h al _ _ (Stp.cold S hp) (S.cold hp) ?_
  show Rep _ _ _ _ _ _
  rw [Rep]
  exact ⟨p, vs, rfl, upd_same, S.fresh_nothot hp, Reps.mono S (Stp.cold S hp) _ _ r⟩
theorem Po.newH {Q : VK} {ds : List D} {vs : List V} {p : PySem.Addr} (S : Sto X.toGx H al M) (r : Reps X.K H al M ds vs) (hp : H p = none) (h : Po X (rE X) W σ H al M Q (.ok (.ptr M.length) (M ++ [.lst ds]))) : Q (.ref p) (upd H p (.lst vs)) := by
  have s : Stp H al M (upd H p (.lst vs)) (al.add p) (M ++ [.lst ds]) := Stp.alloc S hp
  refine h _ _ _ s (S.alloc hp ⟨vs, upd_same, Reps.mono S s _ _ r⟩) ?_
  show Rep _ _ _ _ _ _
  rw [Rep]
  exact ⟨p, rfl, by rw [← S.len]; simp [Am.add]⟩
theorem Po.newL {Q : VK} {hot : Bool} {ds : List D} {vs : List V} {p : PySem.Addr} (S : Sto X.toGx H al M) (r : Reps X.K H al M ds vs) (hp : H p = none) (h : Po X (rE X) W σ H al M Q (newL hot ds M)) : Q (.ref p) (upd H p (.lst vs)) := by
  cases hot with
  | true => exact Po.newH S r hp h
  | false => exact Po.newC S r hp h

/-- a list, plain or of the store, by its value -/
theorem listOf_at {d : D} {v : V} {ds : List D} (S : Sto X.toGx H al M) (r : Rep X.K H al M d v) (h : listOf M d = some ds) : ∃ a vs, v = .ref a ∧ H a = some (.lst vs) ∧ Reps X.K H al M ds vs := by
  cases d with
  | lst xs =>
    simp only [listOf, Option.some.injEq] at h
    subst h
    rw [Rep] at r
    obtain ⟨a, vs, e, h1, _, h3⟩ := r
    exact ⟨a, vs, e, h1, h3⟩
  | ptr n =>
    rw [Rep] at r
    obtain ⟨a, e, h1⟩ := r
    simp only [listOf] at h
    split at h
    · rename_i xs e2
      cases h
      obtain ⟨vs, h2, h3⟩ := S.at_ n _ a e2 h1
      exact ⟨a, vs, e, h2, h3⟩
    · cases h
  | _ => simp [listOf] at h
theorem seqOf_at {d : D} {v : V} {ds : List D} (S : Sto X.toGx H al M) (r : Rep X.K H al M d v) (h : seqOf M d = some ds) : ∃ a vs, v = .ref a ∧ (SqL X.K H a vs ∨ SqT X.K H a vs) ∧ Reps X.K H al M ds vs := by
  cases d with
  | lst xs =>
    obtain ⟨a, vs, e, h1, h2⟩ := listOf_at S r (ds := ds) (by simpa [seqOf, listOf] using h)
    exact ⟨a, vs, e, .inl (SqL.of h1), h2⟩
  | tup xs =>
    simp only [seqOf, Option.some.injEq] at h
    subst h
    rw [Rep] at r
    obtain ⟨a, vs, e, h1, h3⟩ := r
    exact ⟨a, vs, e, .inr (SqT.of h1), h3⟩
  | scr ns =>
    simp only [seqOf, Option.some.injEq] at h
    subst h
    rw [Rep] at r
    obtain ⟨a, e, h1⟩ := r
    exact ⟨a, _, e, .inl h1.sq, Reps.of_ints ns⟩
  | ptr n =>
    obtain ⟨a, vs, e, h1, h2⟩ := listOf_at S r (ds := ds) (by simpa [seqOf, listOf] using h)
    exact ⟨a, vs, e, .inl (SqL.of h1), h2⟩
  | _ => simp [seqOf] at h
theorem intsOf_eq : ∀ {ds : List D} {ns : List Int}, intsOf ds = some ns → ds = ns.map D.int
  | [], ns, h => by simp at h; rw [h]; rfl
  | .int i :: r, ns, h => by
    rw [intsOf_cons] at h
    cases q : intsOf r with
    | none => rw [q] at h; cases h
    | some ms =>
      rw [q] at h
      cases h
      rw [intsOf_eq q]; rfl
  | .non :: _, _, h => by simp [intsOf] at h
  | .bl _ :: _, _, h => by simp [intsOf] at h
  | .str _ :: _, _, h => by simp [intsOf] at h
  | .tup _ :: _, _, h => by simp [intsOf] at h
  | .lst _ :: _, _, h => by simp [intsOf] at h
  | .scr _ :: _, _, h => by simp [intsOf] at h
  | .ptr _ :: _, _, h => by simp [intsOf] at h
theorem boolsOf_eq : ∀ {ds : List D} {ns : List Bool}, boolsOf ds = some ns → ds = ns.map D.bl
  | [], ns, h => by simp [boolsOf] at h; rw [h]; rfl
  | .bl i :: r, ns, h => by
    rw [boolsOf] at h
    cases q : boolsOf r with
    | none => rw [q] at h; cases h
    | some ms =>
      rw [q] at h
      cases h
      rw [boolsOf_eq q]; rfl
  | .non :: _, _, h => by simp [boolsOf] at h
  | .int _ :: _, _, h => by simp [boolsOf] at h
  | .str _ :: _, _, h => by simp [boolsOf] at h
  | .tup _ :: _, _, h => by simp [boolsOf] at h
  | .lst _ :: _, _, h => by simp [boolsOf] at h
  | .scr _ :: _, _, h => by simp [boolsOf] at h
  | .ptr _ :: _, _, h => by simp [boolsOf] at h
theorem Reps.bools : ∀ {ns : List Bool} {vs : List V}, Reps X.K H al M (ns.map D.bl) vs → vs = ns.map V.bl
  | [], vs, h => by simpa [Reps] using h
  | n :: ns, vs, h => by
    rw [List.map_cons, Reps] at h
    obtain ⟨v, r, e, h1, h2⟩ := h
    rw [Rep] at h1
    rw [e, h1, Reps.bools h2, List.map_cons]

def astB : Bop → PySem.Operator
  | .add => .Add | .sub => .Sub | .mul => .Mult | .fdiv => .FloorDiv | .mod => .Mod | .pow => .Pow | .band => .BitAnd | .bor => .BitOr | .bxor => .BitXor | .shl => .LShift | .shr => .RShift
/-- what the layer's rules of an operator ask, all together -/
def rB (K : PySem.W.Frag) : Bop → R2
  | .add => fun x y H Q => L2.rI0 (fun i j => .int (i + j)) x y H Q ∨ (∃ i j, x = .str i ∧ y = .str j ∧ i.length + j.length ≤ PySem.sizeLine ∧ Q (.str (i ++ j)) H) ∨ L2.rCatA K x y H Q ∨ L2.rCat x y H Q
  | .sub => L2.rI0 fun i j => .int (i - j)
  | .mul => fun x y H Q => L2.rI L2.CMul (fun i j => .int (i * j)) x y H Q ∨ L2.rRep x y H Q
  | .fdiv => L2.rI L2.CDiv fun i j => .int (i / j)
  | .mod => L2.rI (fun _ j => 0 < j) fun i j => .int (i % j)
  | .pow => L2.rI L2.CPow fun i j => .int (i ^ j.toNat)
  | .shl => L2.rI L2.CPow fun i j => .int (i * 2 ^ j.toNat)
  | .shr => L2.rI (fun _ j => 0 ≤ j) fun i j => .int (i / 2 ^ j.toNat)
  | .band => L2.rI0 fun i j => .int (PySem.Builtin.bitAnd i j)
  | .bor => L2.rI0 fun i j => .int (PySem.Builtin.bitOr i j)
  | .bxor => L2.rI0 fun i j => .int (PySem.Builtin.bitXor i j)
theorem op_rB {cx : L2.Cx} : ∀ o : Bop, L2.OpR cx (PySem.binaryOp (astB o)) (rB cx.K o)
  | .add => L2.op_add.or (L2.op_add_str.or (L2.op_catA.or L2.op_cat))
  | .sub => L2.op_sub
  | .mul => L2.op_mul.or L2.op_rep
  | .fdiv => L2.op_fdiv
  | .mod => L2.op_mod
  | .pow => L2.op_pow
  | .shl => L2.op_shl
  | .shr => L2.op_shr
  | .band => L2.op_and
  | .bor => L2.op_or
  | .bxor => L2.op_xor
theorem rep_int {i : Int} {v : V} (r : Rep X.K H al M (.int i) v) : v = .int i := by rw [Rep] at r; exact r
theorem rep_str {i : Str} {v : V} (r : Rep X.K H al M (.str i) v) : v = .str i := by rw [Rep] at r; exact r
theorem rep_bl {i : Bool} {v : V} (r : Rep X.K H al M (.bl i) v) : v = .bl i := by rw [Rep] at r; exact r
theorem rep_non {v : V} (r : Rep X.K H al M .non v) : v = .non := by rw [Rep] at r; exact r
theorem int_rep {i : Int} : rE X H al M (.int i) (.int i) := by show Rep _ _ _ _ _ _; rw [Rep]
theorem str_rep {i : Str} : rE X H al M (.str i) (.str i) := by show Rep _ _ _ _ _ _; rw [Rep]
theorem bl_rep {i : Bool} : rE X H al M (.bl i) (.bl i) := by show Rep _ _ _ _ _ _; rw [Rep]
theorem non_rep : rE X H al M .non .non := by show Rep _ _ _ _ _ _; rw [Rep]
theorem tup_at {v : V} {ds : List D} (r : Rep X.K H al M (.tup ds) v) : ∃ a vs, v = .ref a ∧ H a = some (.tup vs) ∧ Reps X.K H al M ds vs := by rw [Rep] at r; exact r

theorem cat_sem {x y : D} {u v : V} {Q : VK} (S : Sto X.toGx H al M) (rx : Rep X.K H al M x u) (ry : Rep X.K H al M y v)
    (p : Po X (rE X) W σ H al M Q (match listOf M x, listOf M y with | some xs, some ys => if xs.length + ys.length ≤ big then .ok (.lst (xs ++ ys)) M else .stuck | _, _ => .stuck)) : L2.rCat u v H Q := by
  split at p
  · rename_i xs ys e1 e2
    split at p
    · rename_i hz
      obtain ⟨a, vs, rfl, h1, q1⟩ := listOf_at S rx e1
      obtain ⟨b, ws, rfl, h2, q2⟩ := listOf_at S ry e2
      exact ⟨a, b, vs, ws, rfl, rfl, h1, h2, by rw [q1.length, q2.length]; exact hz, fun pp hp => Po.newC S (q1.append q2) hp p⟩
    · exact p.elim
  · exact p.elim
theorem rep_sem {x : D} {k : Int} {u : V} {Q : VK} (S : Sto X.toGx H al M) (rx : Rep X.K H al M x u)
    (p : Po X (rE X) W σ H al M Q (match listOf M x with | some xs => if -16777216 ≤ k ∧ k ≤ 16777216 ∧ xs.length * k.toNat ≤ big then .ok (.lst (List.replicate k.toNat xs).flatten) M else .stuck | none => .stuck)) : L2.rRep u (.int k) H Q := by
  split at p
  · rename_i xs e1
    split at p
    · rename_i hz
      obtain ⟨a, vs, rfl, h1, q1⟩ := listOf_at S rx e1
      exact ⟨a, k, vs, rfl, rfl, h1, by omega, by omega, by rw [q1.length]; exact hz.2.2, fun pp hp => Po.newC S (Reps.flatten _ q1) hp p⟩
    · exact p.elim
  · exact p.elim
theorem bop_sem {o : Bop} {x y : D} {u v : V} {Q : VK} (S : Sto X.toGx H al M) (rx : Rep X.K H al M x u) (ry : Rep X.K H al M y v) (p : Po X (rE X) W σ H al M Q (binop o x y M)) : rB X.K o u v H Q := by
  unfold binop at p
  split at p
  · cases rep_int rx; cases rep_int ry; exact .inl ⟨_, _, rfl, rfl, p.ok S int_rep⟩
  · cases rep_int rx; cases rep_int ry; exact ⟨_, _, rfl, rfl, p.ok S int_rep⟩
  · split at p
    · cases rep_int rx; cases rep_int ry; exact .inl ⟨_, _, rfl, rfl, (by unfold L2.CMul; omega), p.ok S int_rep⟩
    · exact p.elim
  · split at p
    · cases rep_int rx; cases rep_int ry; exact ⟨_, _, rfl, rfl, ‹_›, p.ok S int_rep⟩
    · exact p.elim
  · split at p
    · cases rep_int rx; cases rep_int ry; exact ⟨_, _, rfl, rfl, ‹_›, p.ok S int_rep⟩
    · exact p.elim
  · split at p
    · cases rep_int rx; cases rep_int ry; exact ⟨_, _, rfl, rfl, (by unfold L2.CPow; omega), p.ok S int_rep⟩
    · exact p.elim
  · split at p
    · cases rep_int rx; cases rep_int ry; exact ⟨_, _, rfl, rfl, (by unfold L2.CPow; omega), p.ok S int_rep⟩
    · exact p.elim
  · split at p
    · cases rep_int rx; cases rep_int ry; exact ⟨_, _, rfl, rfl, ‹_›, p.ok S int_rep⟩
    · exact p.elim
  · cases rep_int rx; cases rep_int ry; exact ⟨_, _, rfl, rfl, p.ok S int_rep⟩
  · cases rep_int rx; cases rep_int ry; exact ⟨_, _, rfl, rfl, p.ok S int_rep⟩
  · cases rep_int rx; cases rep_int ry; exact ⟨_, _, rfl, rfl, p.ok S int_rep⟩
  · split at p
    · cases rep_str rx; cases rep_str ry; exact .inr (.inl ⟨_, _, rfl, rfl, ‹_›, p.ok S str_rep⟩)
    · exact p.elim
  · split at p
    · rename_i xs ys hz
      obtain ⟨a, vs, rfl, h1, q1⟩ := tup_at rx
      obtain ⟨b, ws, rfl, h2, q2⟩ := tup_at ry
      have l1 := q1.length
      have l2 := q2.length
      refine .inr (.inr (.inl ⟨a, b, vs, ws, rfl, rfl, SqT.of h1, SqT.of h2, by rw [l1, l2]; exact hz, fun e => ?_, fun e e' => ?_, fun e e' pp hp => Po.newT S (q1.append q2) hp p⟩))
      · subst e
        have : xs = [] := List.eq_nil_of_length_eq_zero (by simpa using l1.symm)
        subst this
        exact p.ok S ry
      · subst e'
        have : ys = [] := List.eq_nil_of_length_eq_zero (by simpa using l2.symm)
        subst this
        rw [List.append_nil] at p
        exact p.ok S rx
    · exact p.elim
  · exact .inr (.inr (.inr (cat_sem S rx ry p)))
  · cases rep_int ry; exact .inr (rep_sem S rx p)
  · exact p.elim
end
end G

/-! GCmp -/
set_option maxRecDepth 100000
set_option maxHeartbeats 4000000
namespace G
open PySem (Str PyData)
open L2 (V HO Hp upd upd_same upd_ne SqL SqT Rd WX VK TE TT TA TO R2)

mutual
def toPy : D → PyData
  | .non => .none
  | .bl b => .bool b
  | .int i => .int i
  | .str x => .str x
  | .tup xs => .tuple (toPys xs)
  | .lst xs => .list (toPys xs)
  | .scr _ => .none
  | .ptr _ => .none
def toPys : List D → List PyData
  | [] => []
  | x :: xs => toPy x :: toPys xs
end
section
variable {X : Gy} {W : WX} {σ : L2.St} {H : Hp} {al : Am} {M : Store}
theorem okd_dp : ∀ (k : Nat) (d : D) (v : V), okd k d = true → Rep X.K H al M d v → L2.Dp X.K H v (toPy d) := by
  intro k
  induction k with
  | zero =>
    intro d v h r
    cases d with
    | non => cases rep_non r; rw [toPy]; exact .non
    | bl b => cases rep_bl r; rw [toPy]; exact .bl b
    | int i => cases rep_int r; rw [toPy]; exact .int i
    | str x => cases rep_str r; rw [toPy]; exact .str x
    | _ => simp [okd] at h
  | succ k ih =>
    have all : ∀ (xs : List D) (vs : List V), xs.all (okd k) = true → Reps X.K H al M xs vs → L2.DpAll X.K H vs (toPys xs) := by
      intro xs
      induction xs with
      | nil => intro vs _ r; rw [Reps] at r; subst r; rw [toPys]; exact .nil
      | cons x xs ihx =>
        intro vs h r
        rw [List.all_cons, Bool.and_eq_true] at h
        rw [Reps] at r
        obtain ⟨v, r', e, h1, h2⟩ := r
        subst e
        rw [toPys]
        exact .cons (ih x v h.1 h1) (ihx r' h.2 h2)
    intro d v h r
    cases d with
    | non => cases rep_non r; rw [toPy]; exact .non
    | bl b => cases rep_bl r; rw [toPy]; exact .bl b
    | int i => cases rep_int r; rw [toPy]; exact .int i
    | str x => cases rep_str r; rw [toPy]; exact .str x
    | tup xs =>
      obtain ⟨a, vs, rfl, h1, h2⟩ := tup_at r
      rw [toPy]
      exact .tup (SqT.of h1) (all xs vs (by simpa [okd] using h) h2)
    | lst xs =>
      rw [Rep] at r
      obtain ⟨a, vs, rfl, h1, _, h2⟩ := r
      rw [toPy]
      exact .lst (SqL.of h1) (all xs vs (by simpa [okd] using h) h2)
    | _ => simp [okd] at h
theorem okd_shape : ∀ (k : Nat) (d : D), okd k d = true → (toPy d).canLay0 = true ∧ (toPy d).depth ≤ k := by
  intro k
  induction k with
  | zero =>
    intro d h
    cases d with
    | non => simp [toPy, PyData.canLay0, PyData.depth]
    | bl b => simp [toPy, PyData.canLay0, PyData.depth]
    | int i => simp [toPy, PyData.canLay0, PyData.depth]
    | str x => simp [okd] at h; simp [toPy, PyData.canLay0, PyData.depth, h]
    | _ => simp [okd] at h
  | succ k ih =>
    have all : ∀ (xs : List D), xs.all (okd k) = true → PyData.canLayAll0 (toPys xs) = true ∧ PyData.depthAll (toPys xs) ≤ k := by
      intro xs
      induction xs with
      | nil => intro _; simp [toPys, PyData.canLayAll0, PyData.depthAll]
      | cons x xs ihx =>
        intro h
        rw [List.all_cons, Bool.and_eq_true] at h
        have h1 := ih x h.1
        have h2 := ihx h.2
        rw [toPys, PyData.canLayAll0, PyData.depthAll, h1.1, h2.1]
        exact ⟨rfl, Nat.max_le.mpr ⟨h1.2, h2.2⟩⟩
    intro d h
    cases d with
    | non => simp [toPy, PyData.canLay0, PyData.depth]
    | bl b => simp [toPy, PyData.canLay0, PyData.depth]
    | int i => simp [toPy, PyData.canLay0, PyData.depth]
    | str x => simp [okd] at h; simp [toPy, PyData.canLay0, PyData.depth, h]
    | tup xs =>
      have h2 := all xs (by simpa [okd] using h)
      rw [toPy, PyData.canLay0, PyData.depth]
      exact ⟨h2.1, Nat.succ_le_succ h2.2⟩
    | lst xs =>
      have h2 := all xs (by simpa [okd] using h)
      rw [toPy, PyData.canLay0, PyData.depth]
      exact ⟨h2.1, Nat.succ_le_succ h2.2⟩
    | _ => simp [okd] at h
theorem shaped_of {d : D} (h : okd 12 d = true) : PySem.SeqAt.shaped (toPy d) = true := by
  obtain ⟨h1, h2⟩ := okd_shape 12 d h
  unfold PySem.SeqAt.shaped
  rw [h1, Bool.true_and, decide_eq_true_eq]
  omega
theorem eqd_eqv : ∀ (k : Nat) (d e : D), okd k d = true → okd k e = true → PyData.eqv (toPy d) (toPy e) = eqd d e := by
  intro k
  induction k with
  | zero =>
    intro d e h h'
    cases d <;> cases e <;> first
      | (simp [okd] at h; done)
      | (simp [okd] at h'; done)
      | simp [toPy, PyData.eqv, eqd]
  | succ k ih =>
    have all : ∀ (xs ys : List D), xs.all (okd k) = true → ys.all (okd k) = true → PyData.eqvAll (toPys xs) (toPys ys) = eqds xs ys := by
      intro xs
      induction xs with
      | nil => intro ys _ _; cases ys <;> simp [toPys, PyData.eqvAll, eqds]
      | cons x xs ihx =>
        intro ys h h'
        cases ys with
        | nil => simp [toPys, PyData.eqvAll, eqds]
        | cons y ys =>
          rw [List.all_cons, Bool.and_eq_true] at h h'
          rw [toPys, toPys, PyData.eqvAll, eqds, ih x y h.1 h'.1, ihx ys h.2 h'.2]
    intro d e h h'
    cases d <;> cases e <;> first
      | (simp [okd] at h; done)
      | (simp [okd] at h'; done)
      | (simp [toPy, PyData.eqv, eqd]; done)
      | (rw [toPy, toPy, PyData.eqv, eqd]; exact all _ _ (by simpa [okd] using h) (by simpa [okd] using h'))
theorem top_dp {d : D} {v : V} (S : Sto X.toGx H al M) (r : Rep X.K H al M d v) (h : okd 12 (top M d) = true) : L2.Dp X.K H v (toPy (top M d)) := by
  cases d with
  | ptr n =>
    rw [Rep] at r
    obtain ⟨a, rfl, h1⟩ := r
    simp only [top] at h ⊢
    split at h
    · rename_i xs e
      obtain ⟨vs, h2, h3⟩ := S.at_ n _ a e h1
      -- its items are plain
      rw [toPy]
      refine .lst (SqL.of h2) ?_
      have all : ∀ (xs : List D) (vs : List V), xs.all (okd 11) = true → Reps X.K H al M xs vs → L2.DpAll X.K H vs (toPys xs) := by
        intro xs
        induction xs with
        | nil => intro vs _ r; rw [Reps] at r; subst r; rw [toPys]; exact .nil
        | cons x xs ihx =>
          intro vs h r
          rw [List.all_cons, Bool.and_eq_true] at h
          rw [Reps] at r
          obtain ⟨v, r', e, h1, h2⟩ := r
          subst e
          rw [toPys]
          exact .cons (okd_dp 11 x v h.1 h1) (ihx r' h.2 h2)
      exact all xs vs (by simpa [okd] using h) h3
    · simp [okd] at h
  | _ => exact okd_dp 12 _ v h r
theorem flat_rep {d : D} {v : V} (r : Rep X.K H al M d v) (h : flatd d = true) : L2.flatV v = true := by
  cases d with
  | non => cases rep_non r; rfl
  | bl b => cases rep_bl r; rfl
  | int i => cases rep_int r; rfl
  | str x => cases rep_str r; rfl
  | _ => simp [flatd] at h
theorem flats_rep : ∀ {ds : List D} {vs : List V}, Reps X.K H al M ds vs → ds.all flatd = true → vs.all L2.flatV = true
  | [], vs, r, _ => by rw [Reps] at r; subst r; rfl
  | d :: ds, vs, r, h => by
    rw [List.all_cons, Bool.and_eq_true] at h
    rw [Reps] at r
    obtain ⟨v, r', e, h1, h2⟩ := r
    subst e
    rw [List.all_cons, flat_rep h1 h.1, flats_rep h2 h.2]; rfl
theorem flateq_rep {d e : D} {v u : V} (r : Rep X.K H al M d v) (r' : Rep X.K H al M e u) (h : flatd d = true) (h' : flatd e = true) : L2.eqV v u = flateq d e := by
  cases d <;> first
    | (simp [flatd] at h; done)
    | (cases e <;> first
      | (simp [flatd] at h'; done)
      | (rw [Rep] at r; rw [Rep] at r'; subst r r'; rfl))
theorem inV_rep {x : D} {u : V} (rx : Rep X.K H al M x u) (hx : flatd x = true) : ∀ {ds : List D} {vs : List V}, Reps X.K H al M ds vs → ds.all flatd = true → L2.inV u vs = ds.any fun y => flateq y x
  | [], vs, r, _ => by rw [Reps] at r; subst r; rfl
  | d :: ds, vs, r, h => by
    rw [List.all_cons, Bool.and_eq_true] at h
    rw [Reps] at r
    obtain ⟨v, r', e, h1, h2⟩ := r
    subst e
    have ih := inV_rep rx hx h2 h.2
    unfold L2.inV at ih ⊢
    rw [List.any_cons, List.any_cons, flateq_rep h1 rx h.1 hx, ih]

def astC : Cop → PySem.CmpOp
  | .lt => .Lt | .le => .LtE | .gt => .Gt | .ge => .GtE | .eq => .Eq | .ne => .NotEq | .inn => .In | .nin => .NotIn
def rC (K : PySem.W.Frag) : Cop → R2
  | .lt => L2.rI0 fun i j => .bl (decide (i < j))
  | .le => L2.rI0 fun i j => .bl (decide (i ≤ j))
  | .gt => L2.rI0 fun i j => .bl (decide (j < i))
  | .ge => L2.rI0 fun i j => .bl (decide (j ≤ i))
  | .eq => L2.rEqD K
  | .ne => L2.rNeD K
  | .inn => L2.rIn K false
  | .nin => L2.rIn K true
theorem op_rC {cx : L2.Cx} (hu : cx.A.units + 64 < PySem.cLine) : ∀ o : Cop, L2.OpR cx (PySem.compareOp (astC o)) (rC cx.K o)
  | .lt => L2.op_lt
  | .le => L2.op_le
  | .gt => L2.op_gt
  | .ge => L2.op_ge
  | .eq => L2.op_eqD hu
  | .ne => L2.op_neD hu
  | .inn => L2.op_in_seq
  | .nin => L2.op_notIn_seq
theorem cop_sem {o : Cop} {x y : D} {u v : V} {Q : VK} (S : Sto X.toGx H al M) (rx : Rep X.K H al M x u) (ry : Rep X.K H al M y v) (p : Po X (rE X) W σ H al M Q (cmpop o x y M)) : rC X.K o u v H Q := by
  unfold cmpop at p
  split at p
  · cases rep_int rx; cases rep_int ry; exact ⟨_, _, rfl, rfl, p.ok S bl_rep⟩
  · cases rep_int rx; cases rep_int ry; exact ⟨_, _, rfl, rfl, p.ok S bl_rep⟩
  · cases rep_int rx; cases rep_int ry; exact ⟨_, _, rfl, rfl, p.ok S bl_rep⟩
  · cases rep_int rx; cases rep_int ry; exact ⟨_, _, rfl, rfl, p.ok S bl_rep⟩
  · split at p
    · rename_i h
      refine ⟨_, _, top_dp S rx h.1, top_dp S ry h.2, shaped_of h.1, shaped_of h.2, ?_⟩
      rw [eqd_eqv 12 _ _ h.1 h.2]
      exact p.ok S bl_rep
    · exact p.elim
  · split at p
    · rename_i h
      refine ⟨_, _, top_dp S rx h.1, top_dp S ry h.2, shaped_of h.1, shaped_of h.2, ?_⟩
      rw [eqd_eqv 12 _ _ h.1 h.2]
      exact p.ok S bl_rep
    · exact p.elim
  · split at p
    · rename_i ys e
      split at p
      · rename_i h
        obtain ⟨a, vs, rfl, h1, h2⟩ := seqOf_at S ry e
        refine ⟨a, vs, rfl, h1, flat_rep rx h.1, flats_rep h2 h.2, ?_⟩
        rw [if_neg Bool.false_ne_true, inV_rep rx h.1 h2 h.2]
        exact p.ok S bl_rep
      · exact p.elim
    · exact p.elim
  · split at p
    · rename_i ys e
      split at p
      · rename_i h
        obtain ⟨a, vs, rfl, h1, h2⟩ := seqOf_at S ry e
        refine ⟨a, vs, rfl, h1, flat_rep rx h.1, flats_rep h2 h.2, ?_⟩
        rw [if_pos rfl, inV_rep rx h.1 h2 h.2]
        exact p.ok S bl_rep
      · exact p.elim
    · exact p.elim
  · exact p.elim
theorem isEmpty_reps {ds : List D} {vs : List V} (r : Reps X.K H al M ds vs) : vs.isEmpty = ds.isEmpty := by
  cases ds with
  | nil => rw [Reps] at r; subst r; rfl
  | cons d ds => rw [Reps] at r; obtain ⟨v, r', e, _⟩ := r; subst e; rfl
theorem truth_sem {d : D} {v : V} {b : Bool} (S : Sto X.toGx H al M) (r : Rep X.K H al M d v) (h : truth M d = some b) : L2.TruV X.K v H b := by
  cases d with
  | non => cases rep_non r; simp only [truth, Option.some.injEq] at h; exact h.symm
  | bl c => cases rep_bl r; simp only [truth, Option.some.injEq] at h; exact h.symm
  | int i => cases rep_int r; simp only [truth, Option.some.injEq] at h; exact h.symm
  | tup xs =>
    obtain ⟨a, vs, rfl, h1, h2⟩ := tup_at r
    simp only [truth, Option.some.injEq] at h
    exact .inr (.inl ⟨vs, SqT.of h1, by rw [isEmpty_reps h2, h]⟩)
  | lst xs =>
    obtain ⟨a, vs, rfl, h1, h2⟩ := listOf_at S r (ds := xs) rfl
    simp only [truth, Option.some.injEq] at h
    exact .inl ⟨vs, SqL.of h1, by rw [isEmpty_reps h2, h]⟩
  | ptr n =>
    simp only [truth] at h
    split at h
    · rename_i xs e
      obtain ⟨a, vs, rfl, h1, h2⟩ := listOf_at (d := .ptr n) S r (ds := xs) (by simp only [listOf]; rw [e])
      cases h
      exact .inl ⟨vs, SqL.of h1, by rw [isEmpty_reps h2]⟩
    · cases h
  | _ => simp [truth] at h

theorem atI_reps {ds : List D} {vs : List V} {i : Int} {d : D} (r : Reps X.K H al M ds vs) (h : L2.atI ds i = some d) : ∃ v, L2.atI vs i = some v ∧ Rep X.K H al M d v := by
  unfold L2.atI at h ⊢
  rw [r.length]
  cases e : L2.ixN ds.length i with
  | none => rw [e] at h; cases h
  | some j =>
    rw [e] at h
    exact r.get h
theorem ix_sem {x i : D} {u v : V} {Q : VK} (S : Sto X.toGx H al M) (rx : Rep X.K H al M x u) (ri : Rep X.K H al M i v) (p : Po X (rE X) W σ H al M Q (ixd M x i)) : L2.rIx X.K u v H Q := by
  unfold ixd at p
  split at p
  · split at p
    · rename_i xs e
      split at p
      · rename_i d ed
        cases rep_int ri
        obtain ⟨a, vs, rfl, h1, h2⟩ := seqOf_at S rx e
        obtain ⟨w, hw, rw'⟩ := atI_reps h2 ed
        rcases h1 with h1 | h1
        · exact .inl ⟨a, vs, _, w, rfl, rfl, h1, hw, p.ok S rw'⟩
        · exact .inr (.inl ⟨a, vs, _, w, rfl, rfl, h1, hw, p.ok S rw'⟩)
      · exact p.elim
    · exact p.elim
  · exact p.elim
theorem cut_reps {ds : List D} {vs : List V} (lo hi : Option Int) (r : Reps X.K H al M ds vs) : Reps X.K H al M (cutd ds lo hi) (L2.cutV vs lo hi) := by
  unfold cutd L2.cutV
  rw [r.length]
  exact (r.drop _).take _
def rSl (K : PySem.W.Frag) : V → Option Int → Option Int → Hp → VK → Prop := fun x lo hi H Q => L2.rSlL K x lo hi H Q ∨ L2.rSlA K x lo hi H Q
theorem sl_ok {cx : L2.Cx} : L2.SlR cx (rSl cx.K) := L2.sl_list.or L2.sl_tupA
theorem sl_sem {x : D} {lo hi : Option Int} {u : V} {Q : VK} (S : Sto X.toGx H al M) (rx : Rep X.K H al M x u) (p : Po X (rE X) W σ H al M Q (sld M x lo hi)) : rSl X.K u lo hi H Q := by
  unfold sld at p
  split at p
  · rename_i xs
    obtain ⟨a, vs, rfl, h1, h2⟩ := tup_at rx
    refine .inr ⟨a, vs, rfl, SqT.of h1, fun hw => ?_, fun _ pp hp => Po.newT S (cut_reps lo hi h2) hp p⟩
    have : cutd xs lo hi = xs := by
      rw [h2.length] at hw
      unfold cutd
      rw [hw.1, hw.2]
      simp
    rw [this] at p
    exact p.ok S rx
  · rename_i ns
    rw [Rep] at rx
    obtain ⟨a, rfl, h1⟩ := rx
    exact .inl ⟨a, _, rfl, h1.sq, fun pp hp => Po.newC S (cut_reps lo hi (Reps.of_ints ns)) hp p⟩
  · split at p
    · rename_i xs e
      obtain ⟨a, vs, rfl, h1, h2⟩ := listOf_at S rx e
      exact .inl ⟨a, vs, rfl, SqL.of h1, fun pp hp => Po.newC S (cut_reps lo hi h2) hp p⟩
    · exact p.elim
end
end G

/-! GBi -/
set_option maxRecDepth 100000
set_option maxHeartbeats 4000000
namespace PySem
section
variable {prog : Program} {w : World} {A : Around} {E : Value → Shared → Prop} {s : Shared} {l : Addr} {xs : Array (Int × Tok)}
theorem g_iter_intTup {Q : Value → Shared → Prop} (hl : s.heap.IsTuple l (intItems xs))
    (h : ∀ s₂ : Shared, s₂ = { s with heap := s.heap.push { cls := .type "tuple_iterator", data := .fields #[.ref l, .int 0 0] } } →
      (s₂.heap.IsTupleIter s.heap.objs.size l 0 ∧ s₂.heap.IsTuple l (intItems xs)) → (∀ b ∈ [s.heap.objs.size, l], b < s₂.heap.objs.size) → l ≠ s.heap.objs.size → Q (.ref s.heap.objs.size) s₂) :
    wpAny (model prog w) A (pyIter (.ref l)) Q E s := by
  have hlt : l < s.heap.objs.size := by obtain ⟨_, e, _⟩ := hl; exact Heap.lt_size e
  refine wpAny_pyIter_tuple hl (h _ rfl ⟨⟨_, Heap.get?_push_size _ rfl, rfl, rfl⟩, hl.at fun o e => Heap.get?_push_of_some _ e⟩ (fun b hb => ?_) (Nat.ne_of_lt hlt))
  show b < (s.heap.push _).objs.size
  rw [Heap.size_push]
  rcases List.mem_cons.mp hb with rfl | hb
  · exact Nat.lt_succ_self _
  · rcases List.mem_cons.mp hb with rfl | hb
    · exact Nat.lt_succ_of_lt hlt
    · cases hb
theorem g_old_kept {h' : Heap} (hk : ∀ b o, b ∉ [s.heap.objs.size] → (s.heap.push { cls := .type "tuple_iterator", data := .fields #[.ref l, .int 0 0] }).get? b = some o → h'.get? b = some o) :
    ∀ b o, s.heap.get? b = some o → h'.get? b = some o := fun b o e => by
  refine hk b o (fun hm => ?_) (Heap.get?_push_of_some _ e)
  rcases List.mem_cons.mp hm with e1 | hm
  · exact absurd (e1 ▸ Heap.lt_size e) (Nat.lt_irrefl _)
  · cases hm
theorem g_max_intTup {Q : Value → Shared → Prop} (hh : A.handled = none) (hl : s.heap.IsTuple l (intItems xs)) (hne : 0 < xs.size)
    (h : ∀ v h' tk, (intItems xs)[argBest (fun i j => decide (numAt xs i > numAt xs j)) (xs.size - 1)]? = some v → (∀ b o, s.heap.get? b = some o → h'.get? b = some o) → Q v { s with heap := h', toks := tk }) :
    wpAny (model prog w) A (call (.builtin "max") [.ref l]) Q E s := by
  refine call_max_walk (g_iter_intTup hl fun s₂ e st hfp hlI => ?_)
  subst e
  refine ⟨_, _, _, _, _, _, _, rfl, Walks.tuple (A := A.in1) hh _ l hlI (intItems xs), st, hfp, by simpa [intItems] using hne, CmpOf.ints_gt (numAt xs) (fun _ _ => intItems_at), fun v h' tk hP hk => ?_⟩
  exact h v h' tk (by simpa [intItems] using hP) (g_old_kept hk)
theorem g_min_intTup {Q : Value → Shared → Prop} (hh : A.handled = none) (hl : s.heap.IsTuple l (intItems xs)) (hne : 0 < xs.size)
    (h : ∀ v h' tk, (intItems xs)[argBest (fun i j => decide (numAt xs i < numAt xs j)) (xs.size - 1)]? = some v → (∀ b o, s.heap.get? b = some o → h'.get? b = some o) → Q v { s with heap := h', toks := tk }) :
    wpAny (model prog w) A (call (.builtin "min") [.ref l]) Q E s := by
  refine call_min_walk (g_iter_intTup hl fun s₂ e st hfp hlI => ?_)
  subst e
  refine ⟨_, _, _, _, _, _, _, rfl, Walks.tuple (A := A.in1) hh _ l hlI (intItems xs), st, hfp, by simpa [intItems] using hne, CmpOf.ints_lt (numAt xs) (fun _ _ => intItems_at), fun v h' tk hP hk => ?_⟩
  exact h v h' tk (by simpa [intItems] using hP) (g_old_kept hk)
end
end PySem

namespace L2
open PySem PySem.Spec PyProof.Rows
section
variable {prog : Program} {w : World} {A : Around} {E : Value → Shared → Prop} {s : Shared} {l : Addr} {its : List Value} {ns : List Int} {Q : Value → Shared → Prop}
theorem g_sumT_raw (hh : A.handled = none) (hl : s.heap.IsTuple l its.toArray) (hi : IntsAre its ns)
    (h : ∀ h' tk t', (∀ b o, s.heap.get? b = some o → h'.get? b = some o) → Q (.int ns.sum t') { s with heap := h', toks := tk }) : wpAny (model prog w) A (call (.builtin "sum") [.ref l]) Q E s := by
  obtain ⟨xs, e⟩ := hi.allInts.items
  have hn : numsOf (intItems xs).toList = ns := by rw [← e]; exact hi.numsOf
  rw [nums_intItems] at hn
  rw [e] at hl
  refine PySem.W.ktm_sumG hh hl fun h' tk t' hk => ?_
  have := h h' tk t' hk
  rw [preSum_eq, List.take_of_length_le (by simp), hn]; exact this
theorem g_maxT_raw (hh : A.handled = none) (hl : s.heap.IsTuple l its.toArray) (hi : IntsAre its ns) (hne : 0 < ns.length)
    (h : ∀ h' tk M t', (∀ b o, s.heap.get? b = some o → h'.get? b = some o) → M ∈ ns → (∀ a, a ∈ ns → a ≤ M) → Q (.int M t') { s with heap := h', toks := tk }) : wpAny (model prog w) A (call (.builtin "max") [.ref l]) Q E s := by
  obtain ⟨xs, e⟩ := hi.allInts.items
  have hn : numsOf (intItems xs).toList = ns := by rw [← e]; exact hi.numsOf
  rw [nums_intItems] at hn
  subst hn
  rw [e] at hl
  have hsz : 0 < xs.size := by simpa using hne
  refine PySem.g_max_intTup hh hl hsz fun v h' tk hv hk => ?_
  obtain ⟨t, rfl⟩ := intItems_at hv
  obtain ⟨h1, h2⟩ := argBest_gt (numAt xs) (xs.size - 1)
  refine h h' tk _ t hk ?_ fun a ha => ?_
  · rw [numAt_eq]; exact PySem.getD_mem (by rw [List.length_map, Array.length_toList]; omega)
  · obtain ⟨j, hj, rfl⟩ := mem_getD ha
    rw [List.length_map, Array.length_toList] at hj
    rw [← numAt_eq]; exact h2 j (by omega)
theorem g_minT_raw (hh : A.handled = none) (hl : s.heap.IsTuple l its.toArray) (hi : IntsAre its ns) (hne : 0 < ns.length)
    (h : ∀ h' tk M t', (∀ b o, s.heap.get? b = some o → h'.get? b = some o) → M ∈ ns → (∀ a, a ∈ ns → M ≤ a) → Q (.int M t') { s with heap := h', toks := tk }) : wpAny (model prog w) A (call (.builtin "min") [.ref l]) Q E s := by
  obtain ⟨xs, e⟩ := hi.allInts.items
  have hn : numsOf (intItems xs).toList = ns := by rw [← e]; exact hi.numsOf
  rw [nums_intItems] at hn
  subst hn
  rw [e] at hl
  have hsz : 0 < xs.size := by simpa using hne
  refine PySem.g_min_intTup hh hl hsz fun v h' tk hv hk => ?_
  obtain ⟨t, rfl⟩ := intItems_at hv
  obtain ⟨h1, h2⟩ := argBest_lt (numAt xs) (xs.size - 1)
  refine h h' tk _ t hk ?_ fun a ha => ?_
  · rw [numAt_eq]; exact PySem.getD_mem (by rw [List.length_map, Array.length_toList]; omega)
  · obtain ⟨j, hj, rfl⟩ := mem_getD ha
    rw [List.length_map, Array.length_toList] at hj
    rw [← numAt_eq]; exact h2 j (by omega)
end
section
variable {X : Cx}
def g_rSumT (K : PySem.W.Frag) : List V → Hp → VK → Prop := fun vs H Q => ∃ (a : Addr) (ns : List Int), vs = [V.ref a] ∧ SqT K H a (ns.map V.int) ∧ Q (.int ns.sum) H
def g_rMaxT (K : PySem.W.Frag) : List V → Hp → VK → Prop := fun vs H Q => ∃ (a : Addr) (ns : List Int), vs = [V.ref a] ∧ SqT K H a (ns.map V.int) ∧ 0 < ns.length ∧ ∀ m, m ∈ ns → (∀ y, y ∈ ns → y ≤ m) → Q (.int m) H
def g_rMinT (K : PySem.W.Frag) : List V → Hp → VK → Prop := fun vs H Q => ∃ (a : Addr) (ns : List Int), vs = [V.ref a] ∧ SqT K H a (ns.map V.int) ∧ 0 < ns.length ∧ ∀ m, m ∈ ns → (∀ y, y ∈ ns → m ≤ y) → Q (.int m) H
theorem g_cr_sumT (hc : X.calm = true) : CallR X (.builtin "sum") (g_rSumT X.K) := by
  intro pins s σ H vs us Q I r h
  obtain ⟨a, ns, rfl, hs, q⟩ := h
  obtain ⟨its, rv, hl, _⟩ := I.tuple hs
  rw [Vals.ref1 r]
  exact g_sumT_raw (I.ok.hd hc) hl rv.ints fun h' tk t' hk => ⟨.int _, H, I.kept hk, ⟨_, rfl⟩, q⟩
theorem g_cr_maxT (hc : X.calm = true) : CallR X (.builtin "max") (g_rMaxT X.K) := by
  intro pins s σ H vs us Q I r h
  obtain ⟨a, ns, rfl, hs, hne, q⟩ := h
  obtain ⟨its, rv, hl, _⟩ := I.tuple hs
  rw [Vals.ref1 r]
  exact g_maxT_raw (I.ok.hd hc) hl rv.ints hne fun h' tk m t' hk h1 h2 => ⟨.int _, H, I.kept hk, ⟨_, rfl⟩, q m h1 h2⟩
theorem g_cr_minT (hc : X.calm = true) : CallR X (.builtin "min") (g_rMinT X.K) := by
  intro pins s σ H vs us Q I r h
  obtain ⟨a, ns, rfl, hs, hne, q⟩ := h
  obtain ⟨its, rv, hl, _⟩ := I.tuple hs
  rw [Vals.ref1 r]
  exact g_minT_raw (I.ok.hd hc) hl rv.ints hne fun h' tk m t' hk h1 h2 => ⟨.int _, H, I.kept hk, ⟨_, rfl⟩, q m h1 h2⟩
end
end L2

namespace G
open PySem (Str PyData)
open L2 (V HO Hp upd upd_same upd_ne SqL SqT Rd WX VK TE TT TA TO R2)

/-- the name of a built-in function, its value -/
def biN : Bi → Str
  | .len => "len" | .sum => "sum" | .max1 => "max" | .max2 => "max" | .min1 => "min" | .min2 => "min" | .abs => "abs" | .int => "int" | .sorted => "sorted" | .list _ => "list" | .tuple => "tuple" | .any => "any" | .all => "all"
def biV : Bi → PySem.Value
  | .len => .builtin "len" | .sum => .builtin "sum" | .max1 => .builtin "max" | .max2 => .builtin "max" | .min1 => .builtin "min" | .min2 => .builtin "min" | .abs => .builtin "abs" | .int => .type "int" | .sorted => .builtin "sorted"
  | .list _ => .type "list" | .tuple => .type "tuple" | .any => .builtin "any" | .all => .builtin "all"
theorem biBoot : ∀ f : Bi, PySem.bootBuiltins (biN f) = some (biV f)
  | .len => by decide +kernel | .sum => by decide +kernel | .max1 => by decide +kernel | .max2 => by decide +kernel | .min1 => by decide +kernel | .min2 => by decide +kernel | .abs => by decide +kernel | .int => by decide +kernel | .sorted => by decide +kernel
  | .list _ => by show PySem.bootBuiltins "list" = some (.type "list"); decide +kernel
  | .tuple => by decide +kernel | .any => by decide +kernel | .all => by decide +kernel
def rBi (K : PySem.W.Frag) : Bi → List V → Hp → VK → Prop
  | .len => fun xs H Q => ∃ p ys, xs = [.ref p] ∧ (SqL K H p ys ∨ SqT K H p ys) ∧ Q (.int ys.length) H
  | .sum => fun vs H Q => L2.rSum K vs H Q ∨ L2.g_rSumT K vs H Q
  | .max1 => fun vs H Q => L2.rMax K vs H Q ∨ L2.g_rMaxT K vs H Q
  | .min1 => fun vs H Q => L2.rMin K vs H Q ∨ L2.g_rMinT K vs H Q
  | .max2 => fun xs H Q => ∃ i j, xs = [.int i, .int j] ∧ Q (.int (if j > i then j else i)) H
  | .min2 => fun xs H Q => ∃ i j, xs = [.int i, .int j] ∧ Q (.int (if j < i then j else i)) H
  | .abs => fun xs H Q => ∃ i, xs = [.int i] ∧ Q (.int (if i < 0 then -i else i)) H
  | .int => fun xs H Q => (∃ i, xs = [.int i] ∧ Q (.int i) H) ∨ ∃ k, xs = [.bl k] ∧ Q (.int (if k then 1 else 0)) H
  | .sorted => L2.rSortedI K
  | .list _ => fun xs H Q => ∃ p ys, xs = [.ref p] ∧ (SqL K H p ys ∨ SqT K H p ys) ∧ ∀ l, H l = none → Q (.ref l) (upd H l (.lst ys))
  | .tuple => fun xs H Q => ∃ p ys, xs = [.ref p] ∧ ((SqL K H p ys ∧ ∀ l, H l = none → Q (.ref l) (upd H l (.tup ys))) ∨ (SqT K H p ys ∧ Q (.ref p) H))
  | .any => L2.rAny K
  | .all => L2.rAll K
theorem cr_rBi {cx : L2.Cx} (hc : cx.calm = true) : ∀ f : Bi, L2.CallR cx (biV f) (rBi cx.K f)
  | .len => L2.call_len_seq
  | .sum => (L2.cr_sum hc).or (L2.g_cr_sumT hc)
  | .max1 => (L2.cr_max hc).or (L2.g_cr_maxT hc)
  | .min1 => (L2.cr_min hc).or (L2.g_cr_minT hc)
  | .max2 => L2.call_max2 hc
  | .min2 => L2.call_min2 hc
  | .abs => L2.call_abs
  | .int => L2.call_int1
  | .sorted => L2.cr_sortedI
  | .list _ => L2.call_list_of
  | .tuple => L2.call_tuple_of
  | .any => L2.cr_any hc
  | .all => L2.cr_all hc

theorem max_of {ns : List Int} {m : Int} (h : maxOf ns = some m) : m ∈ ns ∧ ∀ y ∈ ns, y ≤ m := by
  have := List.max?_eq_some_iff.mp (show ns.max? = some m from h)
  exact this
theorem min_of {ns : List Int} {m : Int} (h : minOf ns = some m) : m ∈ ns ∧ ∀ y ∈ ns, m ≤ y := by
  have := List.min?_eq_some_iff.mp (show ns.min? = some m from h)
  exact this
theorem sortI_perm (ns : List Int) : (sortI ns).Perm ns := List.mergeSort_perm _ _
theorem sortI_sorted (ns : List Int) : (sortI ns).Pairwise (· ≤ ·) := by
  have := List.pairwise_mergeSort (le := fun a b : Int => decide (a ≤ b)) (fun a b c h1 h2 => by simp at *; omega) (fun a b => by simp; omega) ns
  exact this.imp (by intro a b h; simpa using h)
theorem sortI_uniq {ns ns' : List Int} (h : ns'.Perm ns) (hs : ns'.Pairwise (· ≤ ·)) : ns' = sortI ns :=
  (h.trans (sortI_perm ns).symm).eq_of_pairwise (fun a b _ _ h1 h2 => Int.le_antisymm h1 h2) hs (sortI_sorted ns)

section
variable {X : Gy} {W : WX} {σ : L2.St} {H : Hp} {al : Am} {M : Store}
theorem reps_one {d : D} {vs : List V} (r : Reps X.K H al M [d] vs) : ∃ v, vs = [v] ∧ Rep X.K H al M d v := by
  rw [Reps] at r
  obtain ⟨v, r', e, h1, h2⟩ := r
  rw [Reps] at h2
  subst h2
  exact ⟨v, e, h1⟩
theorem reps_two {d e : D} {vs : List V} (r : Reps X.K H al M [d, e] vs) : ∃ v u, vs = [v, u] ∧ Rep X.K H al M d v ∧ Rep X.K H al M e u := by
  rw [Reps] at r
  obtain ⟨v, r', e1, h1, h2⟩ := r
  obtain ⟨u, e2, h3⟩ := reps_one h2
  subst e2
  exact ⟨v, u, e1, h1, h3⟩
theorem ints_at {x : D} {v : V} {ns : List Int} (S : Sto X.toGx H al M) (r : Rep X.K H al M x v) (h : (seqOf M x).bind intsOf = some ns) : ∃ a, v = .ref a ∧ (SqL X.K H a (ns.map V.int) ∨ SqT X.K H a (ns.map V.int)) := by
  cases e : seqOf M x with
  | none => rw [e] at h; cases h
  | some ds =>
    rw [e] at h
    have e2 := intsOf_eq (show intsOf ds = some ns from h)
    subst e2
    obtain ⟨a, vs, rfl, h1, h2⟩ := seqOf_at S r e
    rw [h2.ints] at h1
    exact ⟨a, rfl, h1⟩
theorem tupT_at {x : D} {v : V} {xs : List D} (S : Sto X.toGx H al M) (r : Rep X.K H al M x v) (h : seqOf M x = some xs) :
    (∃ a vs, v = .ref a ∧ SqL X.K H a vs ∧ Reps X.K H al M xs vs) ∨ ∃ a vs, v = .ref a ∧ SqT X.K H a vs ∧ rE X H al M (.tup xs) v := by
  cases x with
  | tup ds =>
    simp only [seqOf, Option.some.injEq] at h
    subst h
    obtain ⟨a, vs, rfl, h1, h2⟩ := tup_at r
    exact .inr ⟨a, vs, rfl, SqT.of h1, r⟩
  | lst ds =>
    obtain ⟨a, vs, e, h1, h2⟩ := listOf_at S r (ds := xs) (by simpa [seqOf, listOf] using h)
    exact .inl ⟨a, vs, e, SqL.of h1, h2⟩
  | scr ns =>
    simp only [seqOf, Option.some.injEq] at h
    subst h
    rw [Rep] at r
    obtain ⟨a, e, h1⟩ := r
    exact .inl ⟨a, _, e, h1.sq, Reps.of_ints ns⟩
  | ptr n =>
    obtain ⟨a, vs, e, h1, h2⟩ := listOf_at S r (ds := xs) (by simpa [seqOf, listOf] using h)
    exact .inl ⟨a, vs, e, SqL.of h1, h2⟩
  | _ => simp [seqOf] at h
theorem bi_sem {f : Bi} {as : List D} {vs : List V} {Q : VK} (S : Sto X.toGx H al M) (r : Reps X.K H al M as vs) (p : Po X (rE X) W σ H al M Q (birun f as M)) : rBi X.K f vs H Q := by
  unfold birun at p
  split at p
  · obtain ⟨v, rfl, r1⟩ := reps_one r
    split at p
    · rename_i xs e
      obtain ⟨a, ys, rfl, h1, h2⟩ := seqOf_at S r1 e
      refine ⟨a, ys, rfl, h1, ?_⟩
      rw [h2.length]
      exact p.ok S int_rep
    · exact p.elim
  · obtain ⟨v, rfl, r1⟩ := reps_one r
    split at p
    · rename_i ns e
      obtain ⟨a, rfl, h1 | h1⟩ := ints_at S r1 e
      · exact .inl ⟨a, ns, rfl, h1, p.ok S int_rep⟩
      · exact .inr ⟨a, ns, rfl, h1, p.ok S int_rep⟩
    · exact p.elim
  · obtain ⟨v, rfl, r1⟩ := reps_one r
    split at p
    · rename_i m e
      cases e1 : (seqOf M ‹D›).bind intsOf with
      | none => rw [e1] at e; cases e
      | some ns =>
        rw [e1] at e
        obtain ⟨m1, m2⟩ := max_of (show maxOf ns = some m from e)
        have hl : 0 < ns.length := List.length_pos_of_mem m1
        have fin : ∀ m', m' ∈ ns → (∀ y, y ∈ ns → y ≤ m') → Q (.int m') H := fun m' q1 q2 => by
          have : m' = m := Int.le_antisymm (m2 m' q1) (q2 m m1)
          subst this
          exact p.ok S int_rep
        obtain ⟨a, rfl, h1 | h1⟩ := ints_at S r1 e1
        · exact .inl ⟨a, ns, rfl, h1, hl, fin⟩
        · exact .inr ⟨a, ns, rfl, h1, hl, fin⟩
    · exact p.elim
  · obtain ⟨v, rfl, r1⟩ := reps_one r
    split at p
    · rename_i m e
      cases e1 : (seqOf M ‹D›).bind intsOf with
      | none => rw [e1] at e; cases e
      | some ns =>
        rw [e1] at e
        obtain ⟨m1, m2⟩ := min_of (show minOf ns = some m from e)
        have hl : 0 < ns.length := List.length_pos_of_mem m1
        have fin : ∀ m', m' ∈ ns → (∀ y, y ∈ ns → m' ≤ y) → Q (.int m') H := fun m' q1 q2 => by
          have : m' = m := Int.le_antisymm (q2 m m1) (m2 m' q1)
          subst this
          exact p.ok S int_rep
        obtain ⟨a, rfl, h1 | h1⟩ := ints_at S r1 e1
        · exact .inl ⟨a, ns, rfl, h1, hl, fin⟩
        · exact .inr ⟨a, ns, rfl, h1, hl, fin⟩
    · exact p.elim
  · obtain ⟨v, u, rfl, r1, r2⟩ := reps_two r
    cases rep_int r1; cases rep_int r2
    exact ⟨_, _, rfl, p.ok S int_rep⟩
  · obtain ⟨v, u, rfl, r1, r2⟩ := reps_two r
    cases rep_int r1; cases rep_int r2
    exact ⟨_, _, rfl, p.ok S int_rep⟩
  · obtain ⟨v, rfl, r1⟩ := reps_one r
    cases rep_int r1
    exact ⟨_, rfl, p.ok S int_rep⟩
  · obtain ⟨v, rfl, r1⟩ := reps_one r
    cases rep_int r1
    exact .inl ⟨_, rfl, p.ok S int_rep⟩
  · obtain ⟨v, rfl, r1⟩ := reps_one r
    split at p
    · rename_i ns e
      cases e1 : listOf M ‹D› with
      | none => rw [e1] at e; cases e
      | some ds =>
        rw [e1] at e
        have e2 := intsOf_eq (show intsOf ds = some ns from e)
        subst e2
        obtain ⟨a, vs, rfl, h1, h2⟩ := listOf_at S r1 e1
        rw [h2.ints] at h1
        refine ⟨a, ns, rfl, SqL.of h1, fun ns' pp hp hs hn => ?_⟩
        rw [sortI_uniq hp hs]
        exact Po.newC S (Reps.of_ints _) hn p
    · exact p.elim
  · obtain ⟨v, rfl, r1⟩ := reps_one r
    split at p
    · rename_i xs e
      obtain ⟨a, ys, rfl, h1, h2⟩ := seqOf_at S r1 e
      exact ⟨a, ys, rfl, h1, fun l hl => Po.newL S h2 hl p⟩
    · exact p.elim
  · obtain ⟨v, rfl, r1⟩ := reps_one r
    split at p
    · rename_i xs e
      rcases tupT_at S r1 e with ⟨a, vs, rfl, h1, h2⟩ | ⟨a, vs, rfl, h1, e4⟩
      · exact ⟨a, vs, rfl, .inl ⟨h1, fun l hl => Po.newT S h2 hl p⟩⟩
      · exact ⟨a, vs, rfl, .inr ⟨h1, p.ok S e4⟩⟩
    · exact p.elim
  · obtain ⟨v, rfl, r1⟩ := reps_one r
    split at p
    · rename_i bs e
      cases e1 : listOf M ‹D› with
      | none => rw [e1] at e; cases e
      | some ds =>
        rw [e1] at e
        have e2 := boolsOf_eq (show boolsOf ds = some bs from e)
        subst e2
        obtain ⟨a, vs, rfl, h1, h2⟩ := listOf_at S r1 e1
        rw [Reps.bools h2] at h1
        exact ⟨a, bs, rfl, SqL.of h1, p.ok S bl_rep⟩
    · exact p.elim
  · obtain ⟨v, rfl, r1⟩ := reps_one r
    split at p
    · rename_i bs e
      cases e1 : listOf M ‹D› with
      | none => rw [e1] at e; cases e
      | some ds =>
        rw [e1] at e
        have e2 := boolsOf_eq (show boolsOf ds = some bs from e)
        subst e2
        obtain ⟨a, vs, rfl, h1, h2⟩ := listOf_at S r1 e1
        rw [Reps.bools h2] at h1
        exact ⟨a, bs, rfl, SqL.of h1, p.ok S bl_rep⟩
    · exact p.elim
  · exact p.elim

theorem ptr_at {n : Nat} {v : V} {xs : List D} (S : Sto X.toGx H al M) (r : Rep X.K H al M (.ptr n) v) (e : M[n]? = some (.lst xs)) : ∃ a vs, v = .ref a ∧ al.ad[n]? = some a ∧ H a = some (.lst vs) ∧ Reps X.K H al M xs vs ∧ live M n := by
  rw [Rep] at r
  obtain ⟨a, rfl, h1⟩ := r
  obtain ⟨vs, h2, h3⟩ := S.at_ n _ a e h1
  exact ⟨a, vs, rfl, h1, h2, h3, ⟨_, e, by simp⟩⟩
theorem Po.chgL {Q : VK} {n : Nat} {a : PySem.Addr} {d : D} {v : V} {xs : List D} {vs : List V} (S : Sto X.toGx H al M) (l : live M n) (h1 : al.ad[n]? = some a) (rs : Reps X.K H al M xs vs) (r : Rep X.K H al M d v) (p : Po X (rE X) W σ H al M Q (.ok d (M.set n (.lst xs)))) : Q v (upd H a (.lst vs)) := by
  have s : Stp H al M (upd H a (.lst vs)) al (M.set n (.lst xs)) := Stp.chg S l h1
  exact p al _ v s (S.chg l h1 ⟨vs, upd_same, Reps.mono S s _ _ rs⟩) (Rep.mono S s _ _ r)
def rBm (K : PySem.W.Frag) : Bm → V → List V → Hp → VK → Prop
  | .append => L2.rAppend
  | .popAt => L2.rPopAt
  | .pop => L2.rPop
  | .index => L2.rIndex K
def bmN : Bm → Str
  | .append => "append" | .popAt => "pop" | .pop => "pop" | .index => "index"
theorem bm_sem {f : Bm} {o : D} {as : List D} {u : V} {vs : List V} {Q : VK} (S : Sto X.toGx H al M) (ro : Rep X.K H al M o u) (r : Reps X.K H al M as vs) (p : Po X (rE X) W σ H al M Q (bmrun f o as M)) : rBm X.K f u vs H Q := by
  unfold bmrun at p
  split at p
  · obtain ⟨v, rfl, r1⟩ := reps_one r
    split at p
    · rename_i xs e
      split at p
      · rename_i hz
        obtain ⟨a, ws, rfl, h1, h2, h3, l⟩ := ptr_at S ro e
        exact ⟨a, ws, v, rfl, rfl, h2, by rw [h3.length]; exact hz, Po.chgL S l h1 (h3.append (.cons r1 .nil)) (by rw [Rep]) p⟩
      · exact p.elim
    · exact p.elim
  · obtain ⟨v, rfl, r1⟩ := reps_one r
    cases rep_int r1
    split at p
    · rename_i xs e
      split at p
      · rename_i hz
        split at p
        · rename_i y ey
          obtain ⟨a, ws, rfl, h1, h2, h3, l⟩ := ptr_at S ro e
          obtain ⟨w, hw, rw'⟩ := h3.get ey
          have hl := h3.length
          refine ⟨a, ws, _, _, w, rfl, rfl, h2, by omega, (by omega), ?_, hw, Po.chgL S l h1 (h3.erase _) rw' p⟩
          exact PySem.StrLaws.seqIndex_nonneg hz.1 (by omega)
        · exact p.elim
      · exact p.elim
    · exact p.elim
  · rw [Reps] at r
    subst r
    split at p
    · rename_i xs e
      split at p
      · rename_i y ey
        obtain ⟨a, ws, rfl, h1, h2, h3, l⟩ := ptr_at S ro e
        obtain ⟨w, hw, rw'⟩ := h3.get ey
        exact ⟨a, ws, w, rfl, rfl, h2, by rw [h3.length]; exact hw, Po.chgL S l h1 h3.dropLast rw' p⟩
      · exact p.elim
    · exact p.elim
  · obtain ⟨v, rfl, r1⟩ := reps_one r
    split at p
    · rename_i xs e
      split at p
      · rename_i hf
        split at p
        · rename_i j ej
          obtain ⟨a, ws, rfl, h1, h2⟩ := listOf_at S ro e
          obtain ⟨hj, q1, q2⟩ := List.findIdx?_eq_some_iff_getElem.mp ej
          obtain ⟨z, hz, rz⟩ := h2.get (i := j) (d := xs[j]) (by simp [hj])
          have ff : ∀ (k : Nat) (hk : k < xs.length), flatd xs[k] = true := fun k hk => List.all_eq_true.mp hf.2 _ (List.getElem_mem hk)
          refine ⟨a, ws, v, j, z, rfl, rfl, SqL.of h1, flat_rep r1 hf.1, flats_rep h2 hf.2, hz, ?_, fun m z' hm e' => ?_, p.ok S int_rep⟩
          · rw [flateq_rep rz r1 (ff j hj) hf.1]; exact q1
          · obtain ⟨d, ed, rd⟩ := h2.get' e'
            obtain ⟨hml, ed2⟩ := List.getElem?_eq_some_iff.mp ed
            subst ed2
            rw [flateq_rep rd r1 (ff m hml) hf.1]
            have := q2 m hm
            simpa using this
        · exact p.elim
      · exact p.elim
    · exact p.elim
  · exact p.elim

def tyN : Ty → String
  | .int => "int" | .bool => "bool" | .str => "str" | .tuple => "tuple" | .list => "list"
theorem tyBoot : ∀ t : Ty, PySem.bootBuiltins (Str.ofString (tyN t)) = some (.type (tyN t))
  | .int => by decide +kernel | .bool => by decide +kernel | .str => by decide +kernel | .tuple => by decide +kernel | .list => by decide +kernel
theorem kit_non (K : PySem.W.Frag) : ∀ t : Ty, PySem.W.kitOne K (.type "NoneType") (.type (tyN t)) = some false
  | .int => L2.kit_ty (by decide +kernel) | .bool => L2.kit_ty (by decide +kernel) | .str => L2.kit_ty (by decide +kernel) | .tuple => L2.kit_ty (by decide +kernel) | .list => L2.kit_ty (by decide +kernel)
theorem kit_bool (K : PySem.W.Frag) : ∀ t : Ty, PySem.W.kitOne K (.type "bool") (.type (tyN t)) = some (match t with | .bool => true | .int => true | _ => false)
  | .int => L2.kit_ty (by decide +kernel) | .bool => L2.kit_ty (by decide +kernel) | .str => L2.kit_ty (by decide +kernel) | .tuple => L2.kit_ty (by decide +kernel) | .list => L2.kit_ty (by decide +kernel)
theorem kit_int (K : PySem.W.Frag) : ∀ t : Ty, PySem.W.kitOne K (.type "int") (.type (tyN t)) = some (match t with | .int => true | _ => false)
  | .int => L2.kit_ty (by decide +kernel) | .bool => L2.kit_ty (by decide +kernel) | .str => L2.kit_ty (by decide +kernel) | .tuple => L2.kit_ty (by decide +kernel) | .list => L2.kit_ty (by decide +kernel)
theorem kit_str (K : PySem.W.Frag) : ∀ t : Ty, PySem.W.kitOne K (.type "str") (.type (tyN t)) = some (match t with | .str => true | _ => false)
  | .int => L2.kit_ty (by decide +kernel) | .bool => L2.kit_ty (by decide +kernel) | .str => L2.kit_ty (by decide +kernel) | .tuple => L2.kit_ty (by decide +kernel) | .list => L2.kit_ty (by decide +kernel)
theorem kit_tuple (K : PySem.W.Frag) : ∀ t : Ty, PySem.W.kitOne K (.type "tuple") (.type (tyN t)) = some (match t with | .tuple => true | _ => false)
  | .int => L2.kit_ty (by decide +kernel) | .bool => L2.kit_ty (by decide +kernel) | .str => L2.kit_ty (by decide +kernel) | .tuple => L2.kit_ty (by decide +kernel) | .list => L2.kit_ty (by decide +kernel)
theorem kit_list (K : PySem.W.Frag) : ∀ t : Ty, PySem.W.kitOne K (.type "list") (.type (tyN t)) = some (match t with | .list => true | _ => false)
  | .int => L2.kit_ty (by decide +kernel) | .bool => L2.kit_ty (by decide +kernel) | .str => L2.kit_ty (by decide +kernel) | .tuple => L2.kit_ty (by decide +kernel) | .list => L2.kit_ty (by decide +kernel)
theorem isTy_sem {t : Ty} {d : D} {v : V} {b : Bool} {Q : VK} (S : Sto X.toGx H al M) (r : Rep X.K H al M d v) (e : isTy M t d = some b) (q : Q (.bl b) H) : L2.rIsi X.K [v, .ty (tyN t)] H Q := by
  cases d with
  | non => cases rep_non r; simp only [isTy, Option.some.injEq] at e; subst e; exact ⟨_, _, _, _, _, rfl, .ty _, .base .non, kit_non _ t, q⟩
  | bl c => cases rep_bl r; simp only [isTy, Option.some.injEq] at e; subst e; exact ⟨_, _, _, _, _, rfl, .ty _, .base (.bl _), kit_bool _ t, q⟩
  | int i => cases rep_int r; simp only [isTy, Option.some.injEq] at e; subst e; exact ⟨_, _, _, _, _, rfl, .ty _, .base (.int _), kit_int _ t, q⟩
  | str x => cases rep_str r; simp only [isTy, Option.some.injEq] at e; subst e; exact ⟨_, _, _, _, _, rfl, .ty _, .base (.str _), kit_str _ t, q⟩
  | tup xs =>
    obtain ⟨a, vs, rfl, h1, h2⟩ := tup_at r
    simp only [isTy, Option.some.injEq] at e; subst e
    exact ⟨_, _, _, _, _, rfl, .ty _, .base (.tup h1), kit_tuple _ t, q⟩
  | lst xs =>
    obtain ⟨a, vs, rfl, h1, h2⟩ := listOf_at S r (ds := xs) rfl
    simp only [isTy, Option.some.injEq] at e; subst e
    exact ⟨_, _, _, _, _, rfl, .ty _, .base (.lst h1), kit_list _ t, q⟩
  | scr ns =>
    rw [Rep] at r
    obtain ⟨a, rfl, h1⟩ := r
    simp only [isTy, Option.some.injEq] at e; subst e
    rcases h1 with ⟨o, h1⟩ | ⟨o, its, n, h1, h2, _⟩
    · exact ⟨_, _, _, _, _, rfl, .ty _, .base (.frz h1), kit_list _ t, q⟩
    · exact ⟨_, _, _, _, _, rfl, .ty _, .kList h1 h2, kit_list _ t, q⟩
  | ptr n =>
    simp only [isTy] at e
    split at e
    · rename_i xs e1
      obtain ⟨a, vs, rfl, _, h1, _, _⟩ := ptr_at S r e1
      cases e
      exact ⟨_, _, _, _, _, rfl, .ty _, .base (.lst h1), kit_list _ t, q⟩
    · cases e
end
end G

/-! GAst -/
set_option maxRecDepth 100000
set_option maxHeartbeats 4000000
namespace G
open PySem PySem.Spec PyProof.Rows L2
def noStar : Expr → Bool | .Starred .. => false | _ => true
theorem starEach_cons {e : Expr} {es : List Expr} {env : Env} (h : noStar e = true) : starEach (e :: es) env = (false, eval e env) :: starEach es env := by
  cases e <;> first | rfl | cases h
theorem star_plain {env : Env} {pos : Pos} : ∀ {es : List Expr}, es.all noStar = true → (backTo pos (starEach es env)).any (·.1) = false
  | [], _ => rfl
  | e :: es, h => by
    rw [List.all_cons, Bool.and_eq_true] at h
    rw [starEach_cons h.1]
    show (false || (backTo pos (starEach es env)).any (·.1)) = false
    rw [star_plain h.2]; rfl
def noSet : Expr → Bool | .Set .. => false | _ => true
theorem behind_of {op : CmpOp} {b : Expr} (h : noSet b = true) : behindInMarks op b = false := by
  cases b <;> first | rfl | cases h
theorem lastMarks2 {o p : CmpOp} {b c : Expr} (h : noSet c = true) : lastMarks [o, p] [b, c] = false := by
  show behindInMarks p c = false
  exact behind_of h
def noSlice : Expr → Bool | .Slice .. => false | _ => true
theorem plainIx_of {b : Expr} (h : noSlice b = true) : PlainIx b := fun o i => by
  cases b <;> first | rfl | cases h
def plainT : Expr → Bool
  | .UnaryOp .Not _ _ => false | .BoolOp .. => false | .IfExp .. => false | .Compare .. => false | _ => true
theorem plainT_of {e : Expr} {env : Env} (h : plainT e = true) : ∀ whole, isTrue e env whole = (do let v ← whole; standAt e.pos; holding [v] (truthy v)) := fun whole => by
  cases e <;> first
    | rfl
    | cases h
    | (rename_i op a pos; cases op <;> first | rfl | cases h)
def okBase : Expr → Bool
  | .Call (.Name _ _) [] [] _ => false | _ => true
theorem okBase_of {o : Expr} {f : Str} {env : Env} {whole : Sem Value} (h : okBase o = true) : attributeBase o f env whole = whole := by
  unfold attributeBase
  split
  · cases h
  · rfl
def noComp : Expr → Bool
  | .ListComp .. => false | .SetComp .. => false | .DictComp .. => false | _ => true
theorem noComp_of {e : Expr} {t : Option Expr} {l : Nat} {env : Env} (h : noComp e = true) : swapsWith e t l env = pure false := by
  cases e <;> first | rfl | cases h
theorem folded_of {e : Expr} {env : Env} (h : noSet e = true) (x : Value) : foldedSetIterable e env x = pure x := by
  cases e <;> first | rfl | cases h
def noTup : Expr → Bool
  | .Tuple .. => false | _ => true
theorem swapped_of {t e : Expr} {env : Env} (h : noTup e = true) : swappedStores [t] e env = pure none := by
  cases e <;> first | (cases t <;> rfl) | cases h
theorem assignEach_one {t : Expr} {env : Env} (h : noStar t = true) : (assignEach [t] env).map (·.2) = [assign t env] := by
  cases t <;> first | rfl | cases h
theorem form_of {env : Env} {pos : Pos} {es : List Expr} (h : es.all noStar = true) (hn : es.length < 30) : methodCallForm (es.length + ([] : List Keyword).length) (backTo pos (starEach es env)) (backToKw pos (keywordEach [] env)) = true := by
  unfold methodCallForm
  have h1 := star_plain (env := env) (pos := pos) h
  have h2 : (backTo pos (starEach es env)).all (fun x => !x.1) = true := by
    rw [List.all_eq_true]
    intro x hx
    have := List.any_eq_false.mp h1 x hx
    simpa using this
  rw [h2]
  show (true && true && decide (es.length + 0 + (if ([] : List (Option Str × Sem Value)).isEmpty then 0 else 1) < 30)) = true
  simp
  omega
theorem few_of {env : Env} {pos : Pos} {es : List Expr} (h : es.all noStar = true) (hn : es.length < 30) : ((backTo pos (starEach es env)).all (fun x => !x.1) && (backToKw pos (keywordEach [] env)).all (fun x => x.1.isSome)
      && decide (es.length + ([] : List Keyword).length + (if ([] : List Keyword).isEmpty then 0 else 1) < 30)) = true := form_of h hn
theorem meth_ev {o : Expr} {m : Str} {es : List Expr} {apos pos : Pos} {env : Env} (hb : okBase o = true) (h : es.all noStar = true) (hn : es.length < 30) (hl : (apos.endLine == pos.line) = true) :
    ∃ pl, eval (.Call (.Attribute o m apos) es [] pos) env = (do
      let ov ← eval o env
      standAt apos.atName
      let (f, first) ← holding [ov] (getMethod ov m pl)
      callWith pos f first (backTo pos (starEach es env)) (backToKw pos (keywordEach [] env))) := by
  refine ⟨(do return (← importBound o env).getD true), ?_⟩
  rw [arm_eval_Call, okBase_of hb]
  have hpos : methodCallPos true o env apos pos = pure pos := by unfold methodCallPos; simp [hl]
  unfold methodCall
  rw [form_of h hn, hpos]
  rfl
end G

/-! GChk -/
set_option maxRecDepth 100000
set_option maxHeartbeats 4000000
namespace G
open PySem PySem.Spec PyProof.Rows L2

/-- where a text is looked at: the program, the scope, the names by slot -/
structure Ck where
  P : Pg
  sc : Scope
  N : List Str
  fn : Str → Bool
def Ck.vis (c : Ck) (x : Str) : Bool := match c.sc.names.lookup x with
  | some .local => true
  | some .cell => true
  | some .free => true
  | _ => false
def Ck.loc (c : Ck) (x : Str) : Bool := match c.sc.names.lookup x with
  | some .local => true
  | some .cell => true
  | _ => false
def Ck.var (c : Ck) (i : Nat) (x : Str) : Bool := decide (c.N[i]? = some x) && c.vis x && !(x == ("__debug__" : Str)) && !(x == ("__classdict__" : Str))
def Ck.tgt (c : Ck) (i : Nat) (x : Str) : Bool := decide (c.N[i]? = some x) && c.loc x && (c.fn x || (match c.sc.names.lookup x with | some .local => true | _ => false))
def Ck.glb (c : Ck) (x : Str) : Bool := (match c.sc.names.lookup x with | some .globalImplicit => true | _ => false) && !(x == ("__debug__" : Str))
def Ck.blt (c : Ck) (x : Str) : Bool := c.glb x && decide (x ≠ "__name__")
def Ck.nmd (c : Ck) (i : Nat) (x : Str) : Bool := decide (c.P.nms[i]? = some x)
def blts : List Str := ["len", "sum", "max", "min", "abs", "int", "sorted", "list", "tuple", "any", "all", "isinstance", "range", "bool", "str"]

def chkGs (c : Ck) : List Nat → List Expr → Bool
  | [], [] => true
  | i :: is, .Name x _ :: es => c.tgt i x && chkGs c is es
  | _, _ => false
def chkG (c : Ck) : Gp → Expr → Bool
  | .n i, .Name x _ => c.tgt i x
  | .t is, .Tuple es _ _ => chkGs c is es
  | _, _ => false
def ownOf (c : Ck) (g : Gp) : List (Str × Nat) := (gslots g).map fun i => (c.N.getD i Str.empty, i)
def Ck.blk (c : Ck) (scope : Scope) : Ck := { c with sc := relS scope c.sc, fn := fun x => scope.names.lookup x == some .cell }

mutual
def chkE (c : Ck) : Xp → Expr → Bool
  | .non, e => match e with | .Constant .none _ _ => true | _ => false
  | .bl b, e => match e with | .Constant (.bool b') _ _ => b == b' | _ => false
  | .int i, e => match e with | .Constant (.int j) _ _ => decide (i = j) | _ => false
  | .str x, e => match e with | .Constant (.str y) _ _ => decide (x = y) | _ => false
  | .v i, e => match e with | .Name x _ => c.var i x | _ => false
  | .bin o a b, e => match e with | .BinOp l op r _ => decide (op = astB o) && chkE c a l && chkE c b r | _ => false
  | .neg a, e => match e with | .UnaryOp .USub l _ => chkE c a l | _ => false
  | .notV a, e => match e with | .UnaryOp .Not l _ => chkE c a l | _ => false
  | .cmp o a b, e => match e with | .Compare l [op] [r] _ => decide (op = astC o) && chkE c a l && chkE c b r | _ => false
  | .chn o p a b d, e => match e with | .Compare l [op, op'] [r, r'] _ => decide (op = astC o) && decide (op' = astC p) && chkE c a l && chkE c b r && chkE c d r' | _ => false
  | .isN a, e => match e with | .Compare l [.Is] [.Constant .none _ _] _ => chkE c a l | _ => false
  | .notN a, e => match e with | .Compare l [.IsNot] [.Constant .none _ _] _ => chkE c a l | _ => false
  | .andV as, e => match e with | .BoolOp .And es _ => chkA c as es | _ => false
  | .orV as, e => match e with | .BoolOp .Or es _ => chkA c as es | _ => false
  | .ife t a b, e => match e with | .IfExp q l r _ => chkT c t q && chkE c a l && chkE c b r | _ => false
  | .call f as, e => match e with
    | .Call (.Name x _) es [] _ => (match c.P.fns[f]? with | some k => k.glob && decide (k.name = x) | none => false) && c.glb x && chkA c as es
    | _ => false
  | .mk k as, e => match e with
    | .Call (.Name x _) es [] _ => (match c.P.cls[k]? with | some k => decide (k.name = x) | none => false) && c.glb x && chkA c as es
    | _ => false
  | .meth o m as, e => match e with
    | .Call (.Attribute l x apos) es [] pos => c.nmd m x && okBase l && decide (es.length < 30) && (apos.endLine == pos.line) && chkE c o l && chkA c as es
    | _ => false
  | .bi f as, e => match e with
    | .Call (.Name x _) es [] _ => decide (x = biN f) && c.blt x && !es.isEmpty && chkA c as es
    | _ => false
  | .bm f o as, e => match e with
    | .Call (.Attribute l x apos) es [] pos => decide (x = bmN f) && okBase l && decide (es.length < 30) && (apos.endLine == pos.line) && (es.isEmpty == decide (f = .pop)) && chkE c o l && chkA c as es
    | _ => false
  | .isi a t, e => match e with
    | .Call (.Name x _) [l, .Name y _] [] _ => decide (x = "isinstance") && c.blt x && decide (y = Str.ofString (tyN t)) && c.blt y && chkE c a l
    | _ => false
  | .fld o f, e => match e with | .Attribute l x _ => c.nmd f x && okBase l && chkE c o l | _ => false
  | .ix o i, e => match e with | .Subscript l r _ => chkE c o l && chkE c i r | _ => false
  | .sl o lo hi, e => match e with | .Subscript l (.Slice lo' hi' none _) _ => chkE c o l && chkO c lo lo' && chkO c hi hi' | _ => false
  | .tup as, e => match e with | .Tuple es _ _ => chkA c as es | _ => false
  | .lst _ as, e => match e with | .List es _ => chkA c as es | _ => false
  | .lc _ g it t a, e => match e with
    | .ListComp l [⟨tg, iter, ifs, 0⟩] scope _ => chkI c it iter && blkC c.N c.sc scope (ownOf c g) && chkG (c.blk scope) g tg && chkIfs (c.blk scope) t ifs && chkE (c.blk scope) a l
    | _ => false
  | .frz a, e => chkE c a e
  | .lrg _ a, e => match e with | .Call (.Name x _) [.Call (.Name y _) [l] [] _] [] _ => decide (x = "list") && c.blt x && decide (y = "range") && c.blt y && chkE c a l | _ => false
def chkA (c : Ck) : Xps → List Expr → Bool
  | .nil, es => match es with | [] => true | _ => false
  | .cons a r, es => match es with | e :: es => chkE c a e && chkA c r es | _ => false
def chkO (c : Ck) : Op → Option Expr → Bool
  | .no, e => match e with | none => true | _ => false
  | .so a, e => match e with | some e => chkE c a e | _ => false
def chkT (c : Ck) : Tp → Expr → Bool
  | .val a, e => plainT e && chkE c a e
  | .cmp o a b, e => match e with | .Compare l [op] [r] _ => decide (op = astC o) && chkE c a l && chkE c b r | _ => false
  | .chn o p a b d, e => match e with | .Compare l [op, op'] [r, r'] _ => decide (op = astC o) && decide (op' = astC p) && chkE c a l && chkE c b r && chkE c d r' | _ => false
  | .isN a, e => match e with | .Compare l [.Is] [.Constant .none _ _] _ => chkE c a l | _ => false
  | .notN a, e => match e with | .Compare l [.IsNot] [.Constant .none _ _] _ => chkE c a l | _ => false
  | .tnot t, e => match e with | .UnaryOp .Not l _ => chkT c t l | _ => false
  | .tand ts, e => match e with | .BoolOp .And es _ => chkTs c ts es | _ => false
  | .tor ts, e => match e with | .BoolOp .Or es _ => chkTs c ts es | _ => false
def chkTs (c : Ck) : Tps → List Expr → Bool
  | .nil, _ => false
  | .cons t .nil, es => match es with | [e] => chkT c t e | _ => false
  | .cons t (.cons u r), es => match es with | e :: e' :: es => chkT c t e && chkTs c (.cons u r) (e' :: es) | _ => false
def chkIfs (c : Ck) : Tps → List Expr → Bool
  | .nil, es => match es with | [] => true | _ => false
  | .cons t .nil, es => match es with | [e] => chkT c t e | _ => false
  | _, _ => false
def chkI (c : Ck) : Ip → Expr → Bool
  | .val a, e => chkE c a e
  | .rng1 a, e => match e with | .Call (.Name x _) [l] [] _ => decide (x = "range") && c.blt x && chkE c a l | _ => false
  | .rng2 a b, e => match e with | .Call (.Name x _) [l, r] [] _ => decide (x = "range") && c.blt x && chkE c a l && chkE c b r | _ => false
end

def plainX : Expr → Bool | .Starred .. => false | .Set .. => false | .Slice .. => false | _ => true
theorem chk_plain {c : Ck} : ∀ (x : Xp) (e : Expr), chkE c x e = true → plainX e = true
  | .frz a, e, h => chk_plain a e (by rw [chkE] at h; exact h)
  | .non, e, h => by cases e <;> first | rfl | (simp [chkE] at h; done)
  | .bl _, e, h => by cases e <;> first | rfl | (simp [chkE] at h; done)
  | .int _, e, h => by cases e <;> first | rfl | (simp [chkE] at h; done)
  | .str _, e, h => by cases e <;> first | rfl | (simp [chkE] at h; done)
  | .v _, e, h => by cases e <;> first | rfl | (simp [chkE] at h; done)
  | .bin _ _ _, e, h => by cases e <;> first | rfl | (simp [chkE] at h; done)
  | .neg _, e, h => by cases e <;> first | rfl | (simp [chkE] at h; done)
  | .notV _, e, h => by cases e <;> first | rfl | (simp [chkE] at h; done)
  | .cmp _ _ _, e, h => by cases e <;> first | rfl | (simp [chkE] at h; done)
  | .chn _ _ _ _ _, e, h => by cases e <;> first | rfl | (simp [chkE] at h; done)
  | .isN _, e, h => by cases e <;> first | rfl | (simp [chkE] at h; done)
  | .notN _, e, h => by cases e <;> first | rfl | (simp [chkE] at h; done)
  | .andV _, e, h => by cases e <;> first | rfl | (simp [chkE] at h; done)
  | .orV _, e, h => by cases e <;> first | rfl | (simp [chkE] at h; done)
  | .ife _ _ _, e, h => by cases e <;> first | rfl | (simp [chkE] at h; done)
  | .call _ _, e, h => by cases e <;> first | rfl | (simp [chkE] at h; done)
  | .mk _ _, e, h => by cases e <;> first | rfl | (simp [chkE] at h; done)
  | .meth _ _ _, e, h => by cases e <;> first | rfl | (simp [chkE] at h; done)
  | .bi _ _, e, h => by cases e <;> first | rfl | (simp [chkE] at h; done)
  | .bm _ _ _, e, h => by cases e <;> first | rfl | (simp [chkE] at h; done)
  | .isi _ _, e, h => by cases e <;> first | rfl | (simp [chkE] at h; done)
  | .fld _ _, e, h => by cases e <;> first | rfl | (simp [chkE] at h; done)
  | .ix _ _, e, h => by cases e <;> first | rfl | (simp [chkE] at h; done)
  | .sl _ _ _, e, h => by cases e <;> first | rfl | (simp [chkE] at h; done)
  | .tup _, e, h => by cases e <;> first | rfl | (simp [chkE] at h; done)
  | .lst _ _, e, h => by cases e <;> first | rfl | (simp [chkE] at h; done)
  | .lc _ _ _ _ _, e, h => by cases e <;> first | rfl | (simp [chkE] at h; done)
  | .lrg _ _, e, h => by cases e <;> first | rfl | (simp [chkE] at h; done)
theorem plainX_star {e : Expr} (h : plainX e = true) : noStar e = true := by cases e <;> first | rfl | cases h
theorem plainX_set {e : Expr} (h : plainX e = true) : noSet e = true := by cases e <;> first | rfl | cases h
theorem plainX_slice {e : Expr} (h : plainX e = true) : noSlice e = true := by cases e <;> first | rfl | cases h
theorem chkA_star {c : Ck} : ∀ (as : Xps) (es : List Expr), chkA c as es = true → es.all noStar = true
  | .nil, es, h => by cases es with | nil => rfl | cons _ _ => simp [chkA] at h
  | .cons a r, es, h => by
    cases es with
    | nil => simp [chkA] at h
    | cons e es =>
      rw [chkA, Bool.and_eq_true] at h
      rw [List.all_cons, plainX_star (chk_plain a e h.1), chkA_star r es h.2]; rfl
end G

/-! GSnd -/
set_option maxRecDepth 100000
set_option maxHeartbeats 4000000
namespace G
open PySem PySem.Spec PyProof.Rows L2

end G
namespace L2
open PySem PySem.Spec PyProof.Rows
theorem PE.imp {cx : Cx} {e : Expr} {t t' : TE} (h : PE cx e t) (i : ∀ σ H Q, t' σ H Q → t σ H Q) : PE cx e t' := ⟨fun pins s σ H Q I q => h.run pins s σ H Q I (i σ H Q q)⟩
theorem PT.imp {cx : Cx} {e : Expr} {t t' : TT} (h : PT cx e t) (i : ∀ σ H Q, t' σ H Q → t σ H Q) : PT cx e t' := ⟨fun pins s σ H Q I q => h.run pins s σ H Q I (i σ H Q q)⟩
theorem PW.imp {cx : Cx} {e : Expr} {t t' : TT} (h : PW cx e t) (i : ∀ σ H Q, t' σ H Q → t σ H Q) : PW cx e t' := ⟨fun wh pins s σ H Q I q => h.run wh pins s σ H Q I (i σ H Q q)⟩
theorem PA.imp {cx : Cx} {e : List Expr} {t t' : TA} (h : PA cx e t) (i : ∀ σ H Q, t' σ H Q → t σ H Q) : PA cx e t' := ⟨fun pos pins s σ H Q I q => h.run pos pins s σ H Q I (i σ H Q q)⟩
theorem PO.imp {cx : Cx} {e : Option Expr} {t t' : TO} (h : PO cx e t) (i : ∀ σ H Q, t' σ H Q → t σ H Q) : PO cx e t' := ⟨fun pins s σ H Q I q => h.run pins s σ H Q I (i σ H Q q)⟩

end L2
namespace G
open PySem PySem.Spec PyProof.Rows L2
/-- what is known of the whole text -/
structure Gz extends Gy where
  wf : Nat
  fa : Nat → Addr

/-- a def's promise: what its run says -/
def spR (Z : Gz) (n f : Nat) : Sp := fun vs H Q E => ∃ al M ds, Sto Z.toGx H al M ∧ Reps Z.K H al M ds vs ∧ Po Z.toGy (rE Z.toGy) (fun cls d _ H' => E cls d H') [] H al M Q (callF Z.P Z.wf n f ds M)

structure FnG (Z : Gz) (cx : Cx) (n f : Nat) : Prop where
  ex : ∃ (fd : FuncData) (ps : List Str), FnOk cx.prog cx.w cx.K cx.mg cx.base (L2.CX cx.prog cx.w) (2 * n + 1) (Z.fa f) fd ps (spR Z n f) ∧ Binds cx.K fd ps []
  kp : PySem.W.keepIn cx.K (.ref (Z.fa f)) = true
/-- an exception's __init__: the fields of the new object, the last one first -/
def spX (Z : Gz) (k : Nat) (e : Er) : Sp := fun vs H Q E => ∃ (a : Addr) (us : List V), vs = .ref a :: us ∧ us.length = e.flds.length ∧ H a = some (exo a (Z.ec k) none) ∧
  ∀ d, H d = none → d ≠ a → Q .non (upd (upd H d (exd d ((e.flds.map Z.nm).zip us.reverse))) a (exo a (Z.ec k) (some d)))
structure ErG (Z : Gz) (cx : Cx) (n k : Nat) (e : Er) : Prop where
  ex : OexC cx.K (Z.ec k) ∧ ∃ (fI : Addr) (fd : FuncData) (ps : List Str), PySem.W.findIn cx.K (.ref (Z.ec k)) "__init__" = some (some (.ref fI)) ∧ PySem.W.typeIn cx.K (.ref fI) = some (.type "function") ∧
    FnOk cx.prog cx.w cx.K cx.mg cx.base (L2.CX cx.prog cx.w) (2 * n + 1) fI fd ps (spX Z k e) ∧ Binds cx.K fd ps []
  fl : ∀ f ∈ e.flds, f < Z.P.nms.length
  ne : e.flds ≠ []
  few : e.flds.length ≤ 900
/-- the text's facts, for bodies whose calls are n deep -/
structure Lnk (Z : Gz) (cx : Cx) (n : Nat) : Prop where
  K : cx.K = Z.K
  fn : ∀ f k, Z.P.fns[f]? = some k → FnG Z cx n f
  fnm : ∀ f k, Z.P.fns[f]? = some k → k.glob = true → cx.mg k.name = some (.ref (Z.fa f))
  blt : ∀ x ∈ blts, cx.mg x = none
  clm : ∀ c k, Z.P.cls[c]? = some k → cx.mg k.name = some (.ref (Z.cl c))
  cls : ∀ c k, Z.P.cls[c]? = some k → Cls cx.K (Z.cl c)
  mks : ∀ c k, Z.P.cls[c]? = some k → Mk cx.K (Z.cl c) (Z.fa k.init) ∧ ∃ j, Z.P.fns[k.init]? = some j
  meth : ∀ c k m g, Z.P.cls[c]? = some k → findM m k.meths = some g → Meth cx.K (Z.cl c) (Z.nm m) (Z.fa g) ∧ ∃ j, Z.P.fns[g]? = some j
  ers : ∀ k e, Z.P.ers[k]? = some e → ErG Z cx n k e
  erm : ∀ k e, Z.P.ers[k]? = some e → cx.mg e.name = some (.ref (Z.ec k))
  exm : ∀ c e k e', Z.P.ers[c]? = some e → Z.P.ers[k]? = some e' → PySem.W.exmOne cx.K (.ref (Z.ec c)) (.ref (Z.ec k)) = some (e.ups.contains k)
  xfc : ∀ k e, Z.P.ers[k]? = some e → XfC cx.K (Z.ec k) ∧ ∀ f ∈ e.flds, PySem.W.findIn cx.K (.ref (Z.ec k)) (Z.nm f) = some none
  noat : ∀ c k f, Z.P.cls[c]? = some k → f ∈ k.flds → NoAttr cx.K (Z.cl c) (Z.nm f)
  nms : Z.P.nms.Nodup
structure Good (Z : Gz) (c : Ck) (cx : Cx) (n : Nat) : Prop where
  lnk : Lnk Z cx n
  P : c.P = Z.P
  sc : cx.env.scope = c.sc
  N : cx.N = c.N
  nd : c.N.Nodup
  fn : cx.fn = c.fn
  calm : cx.calm = true
  room : Room (2 * n + 2) cx.A
theorem Good.gl {Z : Gz} {c : Ck} {cx : Cx} {n : Nat} (g : Good Z c cx n) {x : Str} (h : c.glb x = true) : Gl cx x ∧ (x == ("__debug__" : Str)) = false := by
  unfold Ck.glb at h
  rw [Bool.and_eq_true] at h
  obtain ⟨h1, h2⟩ := h
  refine ⟨?_, by simpa using h2⟩
  show cx.env.scope.names.lookup x = _
  rw [g.sc]
  split at h1
  · assumption
  · cases h1
theorem Good.bl {Z : Gz} {c : Ck} {cx : Cx} {n : Nat} (g : Good Z c cx n) {x : Str} (h : c.blt x = true) : Gl cx x ∧ (x == ("__debug__" : Str)) = false ∧ x ≠ "__name__" := by
  unfold Ck.blt at h
  rw [Bool.and_eq_true] at h
  obtain ⟨h1, h2⟩ := g.gl h.1
  exact ⟨h1, h2, by simpa using h.2⟩
theorem Good.units {Z : Gz} {c : Ck} {cx : Cx} {n : Nat} (g : Good Z c cx n) : cx.A.units + 64 < cLine := g.room.units
theorem Good.vis {Z : Gz} {c : Ck} {cx : Cx} {n : Nat} (g : Good Z c cx n) {x : Str} (h : c.vis x = true) : Vis cx.env.scope x := by
  unfold Ck.vis at h
  unfold Vis
  rw [g.sc]
  split at h <;> first | exact .inl (by assumption) | exact .inr (.inl (by assumption)) | exact .inr (.inr (by assumption)) | cases h
theorem Good.loc {Z : Gz} {c : Ck} {cx : Cx} {n : Nat} (g : Good Z c cx n) {x : Str} (h : c.loc x = true) : L2.Loc cx.env.scope x := by
  unfold Ck.loc at h
  unfold L2.Loc
  rw [g.sc]
  split at h <;> first | exact .inl (by assumption) | exact .inr (by assumption) | cases h

section
variable {X : Cx} {CX : CXT} {k : Nat} {f C : Addr} {fd : FuncData} {ps : List Str} {sp : Sp} {E : L2.St → XK} {x m : Str} {p pos apos : Pos} {e o : Expr} {es : List Expr} {ta : TE} {t : TA}
theorem pe_callW (F : FnOk X.prog X.w X.K X.mg X.base CX k f fd ps sp) (hr : Room k X.A) (hg : Gl X x) (hm : X.mg x = some (.ref f)) (hk : PySem.W.keepIn X.K (.ref f) = true) (hb : Binds X.K fd ps []) (hx : ∀ σ, PassesAt CX X σ (E σ))
    (ha : PA X (e :: es) t) (hdb : (x == ("__debug__" : Str)) = false) (hs : (e :: es).all noStar = true) : PE X (.Call (.Name x p) (e :: es) [] pos) (tCallS sp E t) := by
  rw [List.all_cons, Bool.and_eq_true] at hs
  exact pe_callS F hr hg hm hk hb hx ha hdb (starEach_cons hs.1) (star_plain hs.2)
theorem pe_callW0 (F : FnOk X.prog X.w X.K X.mg X.base CX k f fd ps sp) (hr : Room k X.A) (hg : Gl X x) (hm : X.mg x = some (.ref f)) (hk : PySem.W.keepIn X.K (.ref f) = true) (hb : Binds X.K fd ps []) (hx : ∀ σ, PassesAt CX X σ (E σ))
    (hdb : (x == ("__debug__" : Str)) = false) : PE X (.Call (.Name x p) [] [] pos) (tCallS sp E tNil) := by
  refine ⟨fun pins s σ H Q I h => ?_⟩
  refine wpAny_Call_Name_kw (ld_glob I hg hm ?_ hdb)
  exact PySem.W.callWith_K0 I.kIn hk (run_fnS F hr hb (hx σ) I .nil h)

def tMethW (C : Addr) (m : Str) (sp : Sp) (E : L2.St → XK) (ta : TE) (t : TA) : TE := fun σ H Q => ta σ H fun x H1 => ∃ a dx fs, x = .ref a ∧ H1 a = some (.ins C dx fs) ∧ fs.lookup m = none ∧
  t σ H1 fun vs H2 => sp (x :: vs) H2 Q (E σ)
/-- o.m(..), the class known behind o -/
def tMethD (K : PySem.W.Frag) (P : Program) (w : World) (mg : Str → Option Value) (base : Heap) (CX : CXT) (k : Nat) (m : Str) (E : L2.St → XK) (ta : TE) (t : TA) : TE := fun σ H Q => ta σ H fun x H1 =>
  ∃ a C dx fs f fd ps sp, x = .ref a ∧ H1 a = some (.ins C dx fs) ∧ fs.lookup m = none ∧ Cls K C ∧ Meth K C m f ∧ FnOk P w K mg base CX k f fd ps sp ∧ Binds K fd ps [] ∧ t σ H1 fun vs H2 => sp (x :: vs) H2 Q (E σ)
theorem pe_methD (he : PE X o ta) (hr : Room k X.A) (hx : ∀ σ, PassesAt CX X σ (E σ)) (ha : PA X (e :: es) t)
    (hb : okBase o = true) (hs : (e :: es).all noStar = true) (hn : (e :: es).length < 30) (hl : (apos.endLine == pos.line) = true) :
    PE X (.Call (.Attribute o m apos) (e :: es) [] pos) (tMethD X.K X.prog X.w X.mg X.base CX k m E ta t) := by
  obtain ⟨pl, ht⟩ := meth_ev (m := m) (env := X.env) hb hs hn hl
  have hs' := hs
  rw [List.all_cons, Bool.and_eq_true] at hs'
  refine ⟨fun pins s σ H Q I h => ?_⟩
  refine PySem.W.methodCall_KW (pl := pl) (thn (he.run pins s σ H _ I h) fun u s1 ⟨x, H1, I1, rx, a, C, dx, fs, f, fd, ps, sp, ex, ea, l, c, hm, F, hb, q⟩ => ?_) ht
  subst ex
  obtain rfl : u = Value.ref a := rx
  refine getmeth_ok I1 ea c hm l ?_
  refine PySem.W.callWith_K (first := [.ref a]) (h₀ := X.base) I.ok.mod.kin hm.kp (thn (ha.run pos pins s1 σ H1 _ I1 q) fun us s2 ⟨vs, H2, I2, r, q2⟩ => ⟨I2.kIn, ?_⟩) (starEach_cons hs'.1) (star_plain hs'.2)
  exact run_fnS (us := .ref a :: us) (vs := .ref a :: vs) F hr hb (hx σ) I2 (.cons rfl r) q2
theorem pe_methD0 (he : PE X o ta) (hr : Room k X.A) (hx : ∀ σ, PassesAt CX X σ (E σ))
    (hb : okBase o = true) (hl : (apos.endLine == pos.line) = true) :
    PE X (.Call (.Attribute o m apos) [] [] pos) (tMethD X.K X.prog X.w X.mg X.base CX k m E ta tNil) := by
  obtain ⟨pl, ht⟩ := meth_ev (m := m) (env := X.env) (es := []) hb rfl (by decide) hl
  refine ⟨fun pins s σ H Q I h => ?_⟩
  refine PySem.W.methodCall_KW (pl := pl) (thn (he.run pins s σ H _ I h) fun u s1 ⟨x, H1, I1, rx, a, C, dx, fs, f, fd, ps, sp, ex, ea, l, c, hm, F, hb, q⟩ => ?_) ht
  subst ex
  obtain rfl : u = Value.ref a := rx
  refine getmeth_ok I1 ea c hm l ?_
  exact PySem.W.callWith_K0 (first := [.ref a]) I1.kIn hm.kp (run_fnS (us := [.ref a]) (vs := [.ref a]) F hr hb (hx σ) I1 (.cons rfl .nil) q)

def tMakeW (C : Addr) (sp : Sp) (E : L2.St → XK) (t : TA) : TE := fun σ H Q => t σ H fun vs H1 => ∀ x dx, H1 x = none → H1 dx = none → dx ≠ x →
  sp (.ref x :: vs) (upd (upd H1 dx (.own x)) x (.ins C dx [])) (fun v H2 => v = .non ∧ Q (.ref x) H2) (E σ)
theorem run_makeW {pins : List (Addr × Obj)} {σ : L2.St} {H : Hp} {s : Shared} {Q : VK} {us : List Value} {vs : List V} {E : XK} (M : Mk X.K C f) (F : FnOk X.prog X.w X.K X.mg X.base CX k f fd ps sp) (hr : Room (k + 1) X.A) (hb : Binds X.K fd ps [])
    (hx : PassesAt CX X σ E) (I : Inv X pins σ H s) (r : Vals vs us)
    (h : ∀ x dx, H x = none → H dx = none → dx ≠ x → sp (.ref x :: vs) (upd (upd H dx (.own x)) x (.ins C dx [])) (fun v H2 => v = .non ∧ Q (.ref x) H2) E) :
    wpAny (model X.prog X.w) X.A (call (.ref C) us) (EP X pins σ Q) X.xe s := by
  have hq := h (s.heap.objs.size + 1) s.heap.objs.size (I.hok.fresh (Nat.le_succ _)) (I.hok.fresh (Nat.le_refl _)) (Nat.ne_of_lt (Nat.lt_succ_self _))
  have I2 := Inv.made (C := C) I
  have r2 : Vals (V.ref (s.heap.objs.size + 1) :: vs) (Value.ref (s.heap.objs.size + 1) :: us) := .cons rfl r
  have hl : (Value.ref (s.heap.objs.size + 1) :: us).length = ps.length := by
    have e := r2.length
    rw [F.len _ _ _ _ hq] at e
    exact e.symm
  have b := hb _ (Value.ref (s.heap.objs.size + 1) :: us) I2.kIn (by rw [List.append_nil]; exact hl)
  rw [List.append_nil] at b
  refine wpAny_call (make_map (f := f) I.kIn M.makes M.init (beq_iff_eq.mp M.fn) (codeAny_mono (F.run _ X.stack _ _ ⟨Value.ref (s.heap.objs.size + 1) :: us, []⟩ (Value.ref (s.heap.objs.size + 1) :: us) _ _ E (hr.make C us [])
    (I2.env0.make C us []) b r2 hq) fun r s' hq' => ?_))
  cases r with
  | error e => exact hx pins _ _ e s' I2 hq'
  | ok fl =>
    cases fl with
    | ret u =>
      obtain ⟨v, H', I3, rv, ev, q3⟩ := I2.after hq'
      subst ev
      exact ⟨rv, ⟨V.ref (s.heap.objs.size + 1), H', I3, rfl, q3⟩⟩
    | next => exact False.elim hq'
    | brk => exact False.elim hq'
    | cont => exact False.elim hq'
theorem pe_makeW (M : Mk X.K C f) (F : FnOk X.prog X.w X.K X.mg X.base CX k f fd ps sp) (hr : Room (k + 1) X.A) (hg : Gl X x) (hm : X.mg x = some (.ref C)) (hb : Binds X.K fd ps []) (hx : ∀ σ, PassesAt CX X σ (E σ))
    (ha : PA X (e :: es) t) (hdb : (x == ("__debug__" : Str)) = false) (hs : (e :: es).all noStar = true) : PE X (.Call (.Name x p) (e :: es) [] pos) (tMakeW C sp E t) := by
  rw [List.all_cons, Bool.and_eq_true] at hs
  refine ⟨fun pins s σ H Q I h => ?_⟩
  refine wpAny_Call_Name_kw (ld_glob I hg hm ?_ hdb)
  refine PySem.W.callWith_K (h₀ := X.base) I.ok.mod.kin M.kp (thn (ha.run pos pins s σ H _ I h) fun us s1 ⟨vs, H1, I1, r, q⟩ => ⟨I1.kIn, ?_⟩) (starEach_cons hs.1) (star_plain hs.2)
  exact run_makeW M F hr hb (hx σ) I1 r q
theorem pe_makeW0 (M : Mk X.K C f) (F : FnOk X.prog X.w X.K X.mg X.base CX k f fd ps sp) (hr : Room (k + 1) X.A) (hg : Gl X x) (hm : X.mg x = some (.ref C)) (hb : Binds X.K fd ps []) (hx : ∀ σ, PassesAt CX X σ (E σ))
    (hdb : (x == ("__debug__" : Str)) = false) : PE X (.Call (.Name x p) [] [] pos) (tMakeW C sp E tNil) := by
  refine ⟨fun pins s σ H Q I h => ?_⟩
  refine wpAny_Call_Name_kw (ld_glob I hg hm ?_ hdb)
  exact PySem.W.callWith_K0 I.kIn M.kp (run_makeW (us := []) M F hr hb (hx σ) I .nil h)
end
end G

/-! GExpS -/
set_option maxRecDepth 100000
set_option maxHeartbeats 4000000
namespace G
open PySem PySem.Spec PyProof.Rows L2

theorem tG.mono {α β : Type} {X : Gy} {R : Rl α β} {W : WX} {f : Rho → Store → Res α} {σ : L2.St} {H : Hp} {Q Q' : β → Hp → Prop} (h : tG X R W f σ H Q) (hq : ∀ v H', Q v H' → Q' v H') : tG X R W f σ H Q' := by
  obtain ⟨al, ρ, M, S, E, p⟩ := h
  exact ⟨al, ρ, M, S, E, p.mono hq⟩
theorem Po.slot {α β : Type} {X : Gy} {R : Rl α β} {W : WX} {σ σ' : L2.St} {H : Hp} {al : Am} {M : Store} {Q : β → Hp → Prop} {r : Res α} (h : Po X R W σ H al M Q r) : Po X R (fun c d _ H => W c d σ H) σ' H al M Q r := by
  cases r <;> exact h

section
variable {Z : Gz} {K : PySem.W.Frag} {H : Hp} {al : Am} {M : Store}
theorem nm_inj {X : Gx} (hn : X.P.nms.Nodup) {i j : Nat} (hi : i < X.P.nms.length) (hj : j < X.P.nms.length) (e : X.nm i = X.nm j) : i = j := by
  unfold Gx.nm at e
  rw [List.getD_eq_getElem?_getD, List.getD_eq_getElem?_getD, List.getElem?_eq_getElem hi, List.getElem?_eq_getElem hj] at e
  exact (List.getElem_inj hn).mp e
theorem lookup_cons {x y : Str} {v : V} {r : List (Str × V)} : List.lookup x ((y, v) :: r) = if x = y then some v else List.lookup x r := by
  by_cases h : x = y
  · subst h; simp [List.lookup]
  · have hb : (x == y) = false := beq_eq_false_iff_ne.mpr h
    simp only [List.lookup, hb, if_neg h]
theorem Fsr.get {X : Gx} (hn : X.P.nms.Nodup) {f : Nat} (hf : f < X.P.nms.length) : ∀ {fs : List (Nat × D)} {vs : List (Str × V)}, (∀ p ∈ fs, p.1 < X.P.nms.length) → Fsr X.nm K H al M fs vs →
    (∀ d, getF f fs = some d → ∃ v, vs.lookup (X.nm f) = some v ∧ Rep K H al M d v) ∧ (getF f fs = none → vs.lookup (X.nm f) = none)
  | [], vs, _, r => by
    have e : vs = [] := r
    subst e
    exact ⟨fun d e => by simp [getF] at e, fun _ => rfl⟩
  | p :: fs, vs, hl, r => by
    obtain ⟨v, r', e, h1, h2⟩ := r
    subst e
    have ih := Fsr.get hn hf (fun q hq => hl q (List.mem_cons_of_mem _ hq)) h2
    have hp := hl p List.mem_cons_self
    by_cases hpf : p.1 = f
    · refine ⟨fun d e => ⟨v, ?_, ?_⟩, fun e => ?_⟩
      · rw [lookup_cons, if_pos (by rw [hpf])]
      · rw [show getF f (p :: fs) = some p.2 by obtain ⟨a, b⟩ := p; simp [getF, show a = f from hpf]] at e
        cases e; exact h1
      · obtain ⟨a, b⟩ := p
        simp [getF, show a = f from hpf] at e
    · have hne : ¬ X.nm f = X.nm p.1 := fun q => hpf (nm_inj hn hp hf q.symm)
      rw [lookup_cons, if_neg hne]
      obtain ⟨a, b⟩ := p
      rw [show getF f ((a, b) :: fs) = getF f fs by simp [getF, show ¬ a = f from hpf]]
      exact ih
theorem Fsr.set {X : Gx} (hn : X.P.nms.Nodup) {f : Nat} (hf : f < X.P.nms.length) {d : D} {v : V} (rd : Rep K H al M d v) : ∀ {fs : List (Nat × D)} {vs : List (Str × V)}, (∀ p ∈ fs, p.1 < X.P.nms.length) → Fsr X.nm K H al M fs vs →
    Fsr X.nm K H al M (setF f d fs) (putF (X.nm f) v vs) ∧ ∀ p ∈ setF f d fs, p.1 < X.P.nms.length
  | [], vs, _, r => by
    have e : vs = [] := r
    subst e
    exact ⟨⟨v, [], rfl, rd, rfl⟩, fun p hp => by simp [setF] at hp; rw [hp]; exact hf⟩
  | p :: fs, vs, hl, r => by
    obtain ⟨u, r', e, h1, h2⟩ := r
    subst e
    obtain ⟨i1, i2⟩ := Fsr.set hn hf rd (fun q hq => hl q (List.mem_cons_of_mem _ hq)) h2
    have hp := hl p List.mem_cons_self
    obtain ⟨a, b⟩ := p
    by_cases hpf : a = f
    · subst hpf
      have e1 : setF a d ((a, b) :: fs) = (a, d) :: fs := by simp [setF]
      have e2 : putF (X.nm a) v ((X.nm a, u) :: r') = (X.nm a, v) :: r' := by simp [putF]
      rw [e1]
      refine ⟨?_, fun q hq => ?_⟩
      · rw [e2]
        exact ⟨v, r', rfl, rd, h2⟩
      · rcases List.mem_cons.mp hq with rfl | hq
        · exact hp
        · exact hl q (List.mem_cons_of_mem _ hq)
    · have hne : ¬ X.nm a = X.nm f := fun q => hpf (nm_inj hn hp hf q)
      have e1 : setF f d ((a, b) :: fs) = (a, b) :: setF f d fs := by simp [setF, hpf]
      have e2 : putF (X.nm f) v ((X.nm a, u) :: r') = (X.nm a, u) :: putF (X.nm f) v r' := by simp [putF, hne]
      rw [e1]
      refine ⟨?_, fun q hq => ?_⟩
      · rw [e2]
        exact ⟨u, _, rfl, h1, i1⟩
      · rcases List.mem_cons.mp hq with rfl | hq
        · exact hp
        · exact i2 q hq
end
theorem Ck.nmd_of {c : Ck} {Z : Gz} (e : c.P = Z.P) {i : Nat} {x : Str} (h : c.nmd i x = true) : x = Z.nm i ∧ i < Z.P.nms.length := by
  unfold Ck.nmd at h
  rw [decide_eq_true_eq, e] at h
  obtain ⟨h1, h2⟩ := List.getElem?_eq_some_iff.mp h
  refine ⟨?_, h1⟩
  unfold Gx.nm
  rw [List.getD_eq_getElem?_getD, List.getElem?_eq_getElem h1]
  exact h2.symm

section
variable {Z : Gz} {n : Nat}
noncomputable abbrev rnE (Z : Gz) (n : Nat) (x : Xp) : Rho → Store → Res D := fun ρ M => runE Z.P Z.wf (callF Z.P Z.wf n) ρ x M
noncomputable abbrev rnA (Z : Gz) (n : Nat) (x : Xps) : Rho → Store → Res (List D) := fun ρ M => runA Z.P Z.wf (callF Z.P Z.wf n) ρ x M
noncomputable abbrev rnT (Z : Gz) (n : Nat) (x : Tp) : Rho → Store → Res Bool := fun ρ M => runT Z.P Z.wf (callF Z.P Z.wf n) ρ x M
noncomputable abbrev rnTs (Z : Gz) (n : Nat) (x : Tps) : Rho → Store → Res Bool := fun ρ M => runTs Z.P Z.wf (callF Z.P Z.wf n) ρ x M
noncomputable abbrev rnTo (Z : Gz) (n : Nat) (x : Tps) : Rho → Store → Res Bool := fun ρ M => runTo Z.P Z.wf (callF Z.P Z.wf n) ρ x M
noncomputable abbrev rnO (Z : Gz) (n : Nat) (x : Op) : Rho → Store → Res (Option Int) := fun ρ M => runO Z.P Z.wf (callF Z.P Z.wf n) ρ x M
abbrev PEz (Z : Gz) (n : Nat) (cx : Cx) (W : WX) (x : Xp) (e : Expr) : Prop := PE cx e (tE Z.toGy W (rnE Z n x))
abbrev PTz (Z : Gz) (n : Nat) (cx : Cx) (W : WX) (x : Tp) (e : Expr) : Prop := PT cx e (tT Z.toGy W (rnT Z n x))
abbrev PAz (Z : Gz) (n : Nat) (cx : Cx) (W : WX) (x : Xps) (e : List Expr) : Prop := PA cx e (tA Z.toGy W (rnA Z n x))

variable {cx : Cx} {c : Ck} {W : WX} {pos : Pos}
theorem z_c {v : V} {d : D} {e : Expr} {x : Xp} (h : PE cx e (tC v)) (hr : ∀ H al M, rE Z.toGy H al M d v) (hx : ∀ ρ M, rnE Z n x ρ M = .ok d M) : PEz Z n cx W x e := h.imp fun σ H Q h => by
  obtain ⟨al, ρ, M, S, E, p⟩ := h
  rw [hx] at p
  exact p.ok S (hr H al M)
theorem z_bin {o : Bop} {a b : Xp} {l r : Expr} (g : Good Z c cx n) (ha : PEz Z n cx W a l) (hb : PEz Z n cx W b r) : PEz Z n cx W (.bin o a b) (.BinOp l (astB o) r pos) := (pe_op (op_rB o) ha hb).imp fun σ H Q h => by
  unfold rnE at h; simp only [runE] at h
  refine (tG_two h).mono fun x H1 h1 => h1.mono ?_
  rintro y H2 ⟨al, M, a, b, S, r1, r2, p⟩
  rw [g.lnk.K]
  exact bop_sem S r1 r2 p
theorem z_neg {a : Xp} {l : Expr} (ha : PEz Z n cx W a l) : PEz Z n cx W (.neg a) (.UnaryOp .USub l pos) := (pe_un un_neg ha).imp fun σ H Q h => by
  unfold rnE at h; simp only [runE] at h
  refine (tG_one (R := rE Z.toGy) h).mono ?_
  rintro x H1 ⟨al, M, a, S, r1, p⟩
  split at p
  · cases rep_int (X := Z.toGy) r1; exact ⟨_, rfl, p.ok S int_rep⟩
  · exact p.elim
theorem z_notV {a : Xp} {l : Expr} (ha : PEz Z n cx W a l) : PEz Z n cx W (.notV a) (.UnaryOp .Not l pos) := (pe_not ha).imp fun σ H Q h => by
  unfold rnE at h; simp only [runE] at h
  refine (tG_one (R := rE Z.toGy) h).mono ?_
  rintro x H1 ⟨al, M, a, S, r1, p⟩
  split at p
  · cases rep_bl (X := Z.toGy) r1; exact ⟨_, rfl, p.ok S bl_rep⟩
  · exact p.elim
theorem z_cmp {o : Cop} {a b : Xp} {l r : Expr} (g : Good Z c cx n) (hs : noSet r = true) (ha : PEz Z n cx W a l) (hb : PEz Z n cx W b r) : PEz Z n cx W (.cmp o a b) (.Compare l [astC o] [r] pos) := (pe_cmpR (op_rC g.units o) ha hb (behind_of hs)).imp fun σ H Q h => by
  unfold rnE at h; simp only [runE] at h
  refine (tG_two h).mono fun x H1 h1 => h1.mono ?_
  rintro y H2 ⟨al, M, a, b, S, r1, r2, p⟩
  rw [g.lnk.K]
  exact cop_sem S r1 r2 p
theorem z_tcmp {o : Cop} {a b : Xp} {l r : Expr} (g : Good Z c cx n) (hs : noSet r = true) (ha : PEz Z n cx W a l) (hb : PEz Z n cx W b r) : PTz Z n cx W (.cmp o a b) (.Compare l [astC o] [r] pos) := (pt_cmpR (op_rC g.units o) ha hb (behind_of hs)).imp fun σ H Q h => by
  unfold rnT at h; simp only [runT] at h
  refine (tG_two h).mono fun x H1 h1 => h1.mono ?_
  rintro y H2 ⟨al, M, a, b, S, r1, r2, p⟩
  rw [g.lnk.K]
  refine cop_sem S r1 r2 (Po.mono (Po.bind p) ?_)
  rintro z H3 ⟨al3, M3, d, s3, S3, r3, p3⟩
  dsimp only at p3; split at p3
  · cases rep_bl (X := Z.toGy) r3; exact ⟨_, rfl, p3.ok S3 rfl⟩
  · exact p3.elim
/-- a op b op c -/
theorem chn_sem {α β : Type} {R : Rl α β} {o p : Cop} {fa fb fc : Rho → Store → Res D} {k : D → Store → Res α} {kf : Store → Res α} {σ : L2.St} {H : Hp} {Q : β → Hp → Prop} {Qz : VK}
    (h : tG Z.toGy R W (fun ρ M => (fa ρ M).bind fun x M1 => (fb ρ M1).bind fun y M2 => (cmpop o x y M2).bind fun z M3 => match z with
      | .bl true => (fc ρ M3).bind fun u M4 => (cmpop p y u M4).bind k
      | .bl false => kf M3
      | _ => .stuck) σ H Q)
    (hk : ∀ al M d z H', Sto Z.toGx H' al M → Rep Z.K H' al M d z → Po Z.toGy R W σ H' al M Q (k d M) → Qz z H') (hf : ∀ al M H', Sto Z.toGx H' al M → Po Z.toGy R W σ H' al M Q (kf M) → Qz (.bl false) H') :
    tChain (rC Z.K o) (rC Z.K p) (tE Z.toGy W fa) (tE Z.toGy W fb) (tE Z.toGy W fc) σ H Qz := by
  obtain ⟨al, ρ, M, S, E, q⟩ := h
  refine ⟨al, ρ, M, S, E, (Po.bind (R := rE Z.toGy) q).mono ?_⟩
  rintro x H1 ⟨al1, M1, a, s1, S1, r1, q1⟩
  refine ⟨al1, ρ, M1, S1, E.mono S s1, (Po.bind (R := rE Z.toGy) q1).mono ?_⟩
  rintro y H2 ⟨al2, M2, b, s2, S2, r2, q2⟩
  have r1' := Rep.mono S1 s2 _ _ r1
  refine cop_sem S2 r1' r2 ((Po.bind (R := rE Z.toGy) q2).mono ?_)
  rintro z H3 ⟨al3, M3, d, s3, S3, r3, q3⟩
  have r2' := Rep.mono S2 s3 _ _ r2
  have E3 := (E.mono S s1).mono S1 (s2.trans s3)
  dsimp only at q3
  split at q3
  · cases rep_bl (X := Z.toGy) r3
    refine ⟨true, rfl, iteT ⟨al3, ρ, M3, S3, E3, (Po.bind (R := rE Z.toGy) q3).mono ?_⟩⟩
    rintro u H4 ⟨al4, M4, e, s4, S4, r4, q4⟩
    refine cop_sem S4 (Rep.mono S3 s4 _ _ r2') r4 ((Po.bind (R := rE Z.toGy) q4).mono ?_)
    rintro z' H5 ⟨al5, M5, d5, s5, S5, r5, q5⟩
    exact hk al5 M5 d5 z' H5 S5 r5 q5
  · cases rep_bl (X := Z.toGy) r3
    exact ⟨false, rfl, iteF (hf al3 M3 H3 S3 q3)⟩
  · exact q3.elim
theorem Res.bind_ret {α : Type} (r : Res α) : r.bind (fun a M => .ok a M) = r := by cases r <;> rfl
theorem z_chn {o p : Cop} {a b d : Xp} {l r r' : Expr} (g : Good Z c cx n) (hs : noSet r' = true) (ha : PEz Z n cx W a l) (hb : PEz Z n cx W b r) (hd : PEz Z n cx W d r') : PEz Z n cx W (.chn o p a b d) (.Compare l [astC o, astC p] [r, r'] pos) :=
  (pe_chain (op_rC g.units o) (op_rC g.units p) ha hb hd (lastMarks2 hs)).imp fun σ H Q h => by
    unfold rnE at h; simp only [runE] at h
    rw [g.lnk.K]
    refine chn_sem (R := rE Z.toGy) (Q := Q) (k := fun z M => .ok z M) (kf := fun M => .ok (.bl false) M) ?_ (fun al M d z H' S r q => q.ok S r) (fun al M H' S q => q.ok S bl_rep)
    simp only [Res.bind_ret]
    exact h
theorem z_tchn {o p : Cop} {a b d : Xp} {l r r' : Expr} (g : Good Z c cx n) (hs : noSet r' = true) (ha : PEz Z n cx W a l) (hb : PEz Z n cx W b r) (hd : PEz Z n cx W d r') : PTz Z n cx W (.chn o p a b d) (.Compare l [astC o, astC p] [r, r'] pos) :=
  (pt_chain (op_rC g.units o) (op_rC g.units p) ha hb hd (lastMarks2 hs)).imp fun σ H Q h => by
    unfold rnT at h; simp only [runT] at h
    rw [g.lnk.K]
    refine chn_sem (R := rId) (Q := Q) (k := fun z M => match z with | .bl k => .ok k M | _ => .stuck) (kf := fun M => .ok false M) ?_ (fun al M d z H' S r q => ?_) (fun al M H' S q => ⟨false, rfl, q.ok S rfl⟩)
    · exact h
    · split at q
      · cases rep_bl (X := Z.toGy) r; exact ⟨_, rfl, q.ok S rfl⟩
      · exact q.elim
theorem non_iff {X : Gy} {H : Hp} {al : Am} {M : Store} {d : D} {v : V} (r : Rep X.K H al M d v) : decide (v = .non) = (match d with | .non => true | _ => false) := by
  cases d with
  | non => cases rep_non r; rfl
  | bl b => cases rep_bl r; rfl
  | int i => cases rep_int r; rfl
  | str x => cases rep_str r; rfl
  | tup xs => obtain ⟨a, vs, rfl, _⟩ := tup_at r; rfl
  | lst xs => rw [Rep] at r; obtain ⟨a, vs, rfl, _⟩ := r; rfl
  | scr ns => rw [Rep] at r; obtain ⟨a, rfl, _⟩ := r; rfl
  | ptr n => rw [Rep] at r; obtain ⟨a, rfl, _⟩ := r; rfl
theorem z_isN {a : Xp} {l : Expr} {k : Nat} {p' : Pos} (ha : PEz Z n cx W a l) : PEz Z n cx W (.isN a) (.Compare l [.Is] [.Constant .none k p'] pos) := (pe_cmp (pc_isN ha) rfl).imp fun σ H Q h => by
  unfold rnE at h; simp only [runE] at h
  refine (tG_one (R := rE Z.toGy) h).mono ?_
  rintro x H1 ⟨al, M, a, S, r1, p⟩
  rw [non_iff (X := Z.toGy) r1]
  have := p.ok S bl_rep
  cases a <;> exact this
theorem z_notN {a : Xp} {l : Expr} {k : Nat} {p' : Pos} (ha : PEz Z n cx W a l) : PEz Z n cx W (.notN a) (.Compare l [.IsNot] [.Constant .none k p'] pos) := (pe_cmp (pc_notN ha) rfl).imp fun σ H Q h => by
  unfold rnE at h; simp only [runE] at h
  refine (tG_one (R := rE Z.toGy) h).mono ?_
  rintro x H1 ⟨al, M, a, S, r1, p⟩
  rw [non_iff (X := Z.toGy) r1]
  have := p.ok S bl_rep
  cases a <;> exact this
theorem z_tisN {a : Xp} {l : Expr} {k : Nat} {p' : Pos} (ha : PEz Z n cx W a l) : PTz Z n cx W (.isN a) (.Compare l [.Is] [.Constant .none k p'] pos) := (pt_cmp (pc_isN ha) rfl).imp fun σ H Q h => by
  unfold rnT at h; simp only [runT] at h
  refine (tG_one (R := rE Z.toGy) h).mono ?_
  rintro x H1 ⟨al, M, a, S, r1, p⟩
  refine ⟨_, rfl, ?_⟩
  rw [non_iff (X := Z.toGy) r1]
  have := p.ok S rfl
  cases a <;> exact this
theorem z_tnotN {a : Xp} {l : Expr} {k : Nat} {p' : Pos} (ha : PEz Z n cx W a l) : PTz Z n cx W (.notN a) (.Compare l [.IsNot] [.Constant .none k p'] pos) := (pt_cmp (pc_notN ha) rfl).imp fun σ H Q h => by
  unfold rnT at h; simp only [runT] at h
  refine (tG_one (R := rE Z.toGy) h).mono ?_
  rintro x H1 ⟨al, M, a, S, r1, p⟩
  refine ⟨_, rfl, ?_⟩
  rw [non_iff (X := Z.toGy) r1]
  have := p.ok S rfl
  cases a <;> exact this
theorem z_ife {t : Tp} {a b : Xp} {q l r : Expr} (ht : PTz Z n cx W t q) (ha : PEz Z n cx W a l) (hb : PEz Z n cx W b r) : PEz Z n cx W (.ife t a b) (.IfExp q l r pos) := (pe_ifExp ht ha hb).imp fun σ H Q h => by
  unfold rnE at h; simp only [runE] at h
  refine (tG_then (R := rId) (f := rnT Z n t) (g := fun ρ k M1 => match k with | true => rnE Z n a ρ M1 | false => rnE Z n b ρ M1) h).mono ?_
  rintro k H1 ⟨al, ρ, M, k', S, E, e, p⟩
  cases e
  cases k with
  | true => exact iteT ⟨al, ρ, M, S, E, p⟩
  | false => exact iteF ⟨al, ρ, M, S, E, p⟩
theorem z_val {a : Xp} {e : Expr} (g : Good Z c cx n) (hp : plainT e = true) (ha : PEz Z n cx W a e) : PTz Z n cx W (.val a) e := (pt_truth ha (plainT_of hp)).imp fun σ H Q h => by
  unfold rnT at h; simp only [runT] at h
  refine (tG_one (R := rE Z.toGy) h).mono ?_
  rintro x H1 ⟨al, M, a, S, r1, p⟩
  split at p
  · rename_i b e1
    refine ⟨b, ?_, p.ok S rfl⟩
    rw [g.lnk.K]
    exact truth_sem S r1 e1
  · exact p.elim
theorem z_tnot {t : Tp} {e : Expr} (ht : PTz Z n cx W t e) : PTz Z n cx W (.tnot t) (.UnaryOp .Not e pos) := (pt_not ht).imp fun σ H Q h => by
  unfold rnT at h; simp only [runT] at h
  refine (tG_one (R := rId) h).mono ?_
  rintro k H1 ⟨al, M, k', S, e, p⟩
  cases e
  exact p.ok S rfl
end
end G

/-! GExpT -/
set_option maxRecDepth 100000
set_option maxHeartbeats 4000000
namespace G
open PySem PySem.Spec PyProof.Rows L2
section
variable {Z : Gz} {n : Nat} {cx : Cx} {c : Ck} {W : WX} {pos : Pos}
theorem z_nilA : PAz Z n cx W .nil [] := pa_nil.imp fun σ H Q h => by
  obtain ⟨al, ρ, M, S, E, p⟩ := h
  simp only [rnA, runA] at p
  exact p.ok S Reps.nil
theorem z_consA {a : Xp} {r : Xps} {e : Expr} {es : List Expr} (hs : noStar e = true) (ha : PEz Z n cx W a e) (hr : PAz Z n cx W r es) : PAz Z n cx W (.cons a r) (e :: es) := (pa_cons ha hr (starEach_cons hs)).imp fun σ H Q h => by
  unfold rnA at h; simp only [runA] at h
  refine (tG_then (R := rE Z.toGy) (f := rnE Z n a) (g := fun ρ x M1 => (rnA Z n r ρ M1).bind fun xs M2 => .ok (x :: xs) M2) h).mono ?_
  rintro v H1 ⟨al, ρ, M, d, S, E, r1, p⟩
  refine ⟨al, ρ, M, S, E, (Po.bind (R := rA Z.toGy) p).mono ?_⟩
  rintro vs H2 ⟨al2, M2, ds, s2, S2, r2, p2⟩
  exact p2.ok S2 (Reps.cons (Rep.mono S s2 _ _ r1) r2)

theorem z_and1 {a : Xp} {e : Expr} (ha : PEz Z n cx W a e) : PEz Z n cx W (.andV (.cons a .nil)) (.BoolOp .And [e] pos) := (pe_one ha).imp fun σ H Q h => by
  unfold rnE at h; simp only [runE, runAnd] at h; exact h
theorem z_or1 {a : Xp} {e : Expr} (ha : PEz Z n cx W a e) : PEz Z n cx W (.orV (.cons a .nil)) (.BoolOp .Or [e] pos) := (pe_one ha).imp fun σ H Q h => by
  unfold rnE at h; simp only [runE, runOr] at h; exact h
theorem z_and2 {a b : Xp} {r : Xps} {e e' : Expr} {es : List Expr} (ha : PEz Z n cx W a e) (hb : PEz Z n cx W (.andV (.cons b r)) (.BoolOp .And (e' :: es) pos)) : PEz Z n cx W (.andV (.cons a (.cons b r))) (.BoolOp .And (e :: e' :: es) pos) :=
  (pe_and ha hb).imp fun σ H Q h => by
    unfold rnE at h; simp only [runE, runAnd] at h
    refine (tG_then (R := rE Z.toGy) (f := rnE Z n a) (g := fun ρ x M1 => match x with | .bl true => runAnd Z.P Z.wf (callF Z.P Z.wf n) ρ (.cons b r) M1 | .bl false => .ok (.bl false) M1 | _ => .stuck) h).mono ?_
    rintro v H1 ⟨al, ρ, M, d, S, E, r1, p⟩
    try dsimp only at p
    split at p
    · cases rep_bl (X := Z.toGy) r1
      refine ⟨true, rfl, iteT ⟨al, ρ, M, S, E, ?_⟩⟩
      simp only [rnE, runE]; exact p
    · cases rep_bl (X := Z.toGy) r1
      exact ⟨false, rfl, iteF (p.ok S bl_rep)⟩
    · exact p.elim
theorem z_or2 {a b : Xp} {r : Xps} {e e' : Expr} {es : List Expr} (ha : PEz Z n cx W a e) (hb : PEz Z n cx W (.orV (.cons b r)) (.BoolOp .Or (e' :: es) pos)) : PEz Z n cx W (.orV (.cons a (.cons b r))) (.BoolOp .Or (e :: e' :: es) pos) :=
  (pe_or ha hb).imp fun σ H Q h => by
    unfold rnE at h; simp only [runE, runOr] at h
    refine (tG_then (R := rE Z.toGy) (f := rnE Z n a) (g := fun ρ x M1 => match x with | .bl false => runOr Z.P Z.wf (callF Z.P Z.wf n) ρ (.cons b r) M1 | .bl true => .ok (.bl true) M1 | _ => .stuck) h).mono ?_
    rintro v H1 ⟨al, ρ, M, d, S, E, r1, p⟩
    try dsimp only at p
    split at p
    · cases rep_bl (X := Z.toGy) r1
      refine ⟨false, rfl, iteF ⟨al, ρ, M, S, E, ?_⟩⟩
      simp only [rnE, runE]; exact p
    · cases rep_bl (X := Z.toGy) r1
      exact ⟨true, rfl, iteT (p.ok S bl_rep)⟩
    · exact p.elim
theorem z_tand1 {a : Tp} {e : Expr} (ha : PTz Z n cx W a e) : PW cx (.BoolOp .And [e] pos) (tT Z.toGy W (rnTs Z n (.cons a .nil))) := (pw_and1 ha).imp fun σ H Q h => by
  unfold rnTs at h; simp only [runTs] at h; exact h
theorem z_tor1 {a : Tp} {e : Expr} (ha : PTz Z n cx W a e) : PW cx (.BoolOp .Or [e] pos) (tT Z.toGy W (rnTo Z n (.cons a .nil))) := (pw_or1 ha).imp fun σ H Q h => by
  unfold rnTo at h; simp only [runTo] at h; exact h
theorem z_tand2 {a b : Tp} {r : Tps} {e e' : Expr} {es : List Expr} (ha : PTz Z n cx W a e) (hb : PW cx (.BoolOp .And (e' :: es) pos) (tT Z.toGy W (rnTs Z n (.cons b r)))) : PW cx (.BoolOp .And (e :: e' :: es) pos) (tT Z.toGy W (rnTs Z n (.cons a (.cons b r)))) :=
  (pw_and ha hb).imp fun σ H Q h => by
    unfold rnTs at h; simp only [runTs] at h
    refine (tG_then (R := rId) (f := rnT Z n a) (g := fun ρ k M1 => match k with | true => rnTs Z n (.cons b r) ρ M1 | false => .ok false M1) h).mono ?_
    rintro k H1 ⟨al, ρ, M, d, S, E, e, p⟩
    cases e
    cases k with
    | true => exact iteT ⟨al, ρ, M, S, E, p⟩
    | false => exact iteF (p.ok S rfl)
theorem z_tor2 {a b : Tp} {r : Tps} {e e' : Expr} {es : List Expr} (ha : PTz Z n cx W a e) (hb : PW cx (.BoolOp .Or (e' :: es) pos) (tT Z.toGy W (rnTo Z n (.cons b r)))) : PW cx (.BoolOp .Or (e :: e' :: es) pos) (tT Z.toGy W (rnTo Z n (.cons a (.cons b r)))) :=
  (pw_or ha hb).imp fun σ H Q h => by
    unfold rnTo at h; simp only [runTo] at h
    refine (tG_then (R := rId) (f := rnT Z n a) (g := fun ρ k M1 => match k with | true => .ok true M1 | false => rnTo Z n (.cons b r) ρ M1) h).mono ?_
    rintro k H1 ⟨al, ρ, M, d, S, E, e, p⟩
    cases e
    cases k with
    | true => exact iteT (p.ok S rfl)
    | false => exact iteF ⟨al, ρ, M, S, E, p⟩

theorem z_call {f : Nat} {k : Fn} {as : Xps} {es : List Expr} {x : Str} {p : Pos} (g : Good Z c cx n) (tk : Takes cx W) (hf : Z.P.fns[f]? = some k) (hgl : k.glob = true) (hx : k.name = x) (hc : c.glb x = true) (hst : es.all noStar = true)
    (hl : (as = .nil ∧ es = []) ∨ ∃ e es', es = e :: es') (ha : PAz Z n cx W as es) : PEz Z n cx W (.call f as) (.Call (.Name x p) es [] pos) := by
  obtain ⟨⟨fd, ps, F, hb⟩, kp⟩ := g.lnk.fn f k hf
  have hm := g.lnk.fnm f k hf hgl
  rw [hx] at hm
  obtain ⟨hg, hdb⟩ := g.gl hc
  have hr : Room (2 * n + 1) cx.A := g.room.mono (by omega)
  rcases hl with ⟨rfl, rfl⟩ | ⟨e, es', rfl⟩
  · refine (pe_callW0 F hr hg hm kp hb (fun σ => passAt tk σ) hdb).imp fun σ H Q h => ?_
    unfold rnE at h; simp only [runE, runA, bind_ok] at h
    obtain ⟨al, ρ, M, S, E, q⟩ := h
    exact ⟨al, M, [], S, Reps.nil, q.slot⟩
  · refine (pe_callW F hr hg hm kp hb (fun σ => passAt tk σ) ha hdb hst).imp fun σ H Q h => ?_
    unfold rnE at h; simp only [runE] at h
    refine (tG_one (R := rA Z.toGy) h).mono ?_
    rintro vs H1 ⟨al, M, ds, S, r, q⟩
    exact ⟨al, M, ds, S, r, q.slot⟩
theorem mk_sem {k : Nat} {kl : Cl} {ds : List D} {vs : List V} {σ : L2.St} {H : Hp} {al : Am} {M : Store} {Q : VK} (S : Sto Z.toGx H al M) (r : Reps Z.K H al M ds vs)
    (p : Po Z.toGy (rE Z.toGy) W σ H al M Q ((callF Z.P Z.wf n kl.init (.ptr M.length :: ds) (M ++ [.ins k []])).bind fun r M2 => match r with | .non => .ok (.ptr M.length) M2 | _ => .stuck)) :
    ∀ x dx, H x = none → H dx = none → dx ≠ x → spR Z n kl.init (.ref x :: vs) (upd (upd H dx (.own x)) x (.ins (Z.cl k) dx [])) (fun v H2 => v = .non ∧ Q (.ref x) H2) (WE W σ) := by
  intro x dx hx hdx hne
  have s1 : Stp H al M (upd H dx (.own x)) al M := Stp.cold S hdx
  have S1 : Sto Z.toGx (upd H dx (.own x)) al M := S.cold hdx
  have hx1 : upd H dx (.own x) x = none := by rw [upd_ne (Ne.symm hne)]; exact hx
  have s2 : Stp (upd H dx (.own x)) al M (upd (upd H dx (.own x)) x (.ins (Z.cl k) dx [])) (al.add x) (M ++ [.ins k []]) := Stp.alloc S1 hx1
  have S2 : Sto Z.toGx (upd (upd H dx (.own x)) x (.ins (Z.cl k) dx [])) (al.add x) (M ++ [.ins k []]) := S1.alloc hx1 ⟨dx, [], upd_same, rfl, fun p hp => absurd hp (by simp)⟩
  have hget : (al.add x).ad[M.length]? = some x := by rw [← S.len]; simp [Am.add]
  refine ⟨al.add x, M ++ [.ins k []], .ptr M.length :: ds, S2, ?_, ?_⟩
  · refine Reps.cons ?_ (Reps.mono S1 s2 _ _ (Reps.mono S s1 _ _ r))
    rw [Rep]; exact ⟨x, rfl, hget⟩
  · refine (((Po.step p (s1.trans s2)).bind (R := rE Z.toGy)).mono ?_).slot
    rintro v H3 ⟨al3, M3, d, s3, S3, r3, p3⟩
    try dsimp only at p3
    split at p3
    · cases rep_non (X := Z.toGy) r3
      refine ⟨rfl, p3.ok S3 ?_⟩
      show Rep _ _ _ _ _ _
      rw [Rep]; exact ⟨x, rfl, s3.get hget⟩
    · exact p3.elim
theorem z_mk {k : Nat} {kl : Cl} {as : Xps} {es : List Expr} {x : Str} {p : Pos} (g : Good Z c cx n) (tk : Takes cx W) (hk : Z.P.cls[k]? = some kl) (hx : kl.name = x) (hc : c.glb x = true) (hst : es.all noStar = true)
    (hl : (as = .nil ∧ es = []) ∨ ∃ e es', es = e :: es') (ha : PAz Z n cx W as es) : PEz Z n cx W (.mk k as) (.Call (.Name x p) es [] pos) := by
  obtain ⟨hM, j, hj⟩ := g.lnk.mks k kl hk
  obtain ⟨⟨fd, ps, F, hb⟩, kp⟩ := g.lnk.fn kl.init j hj
  have hm := g.lnk.clm k kl hk
  rw [hx] at hm
  obtain ⟨hg, hdb⟩ := g.gl hc
  rcases hl with ⟨rfl, rfl⟩ | ⟨e, es', rfl⟩
  · refine (pe_makeW0 hM F g.room hg hm hb (fun σ => passAt tk σ) hdb).imp fun σ H Q h => ?_
    unfold rnE at h; simp only [runE, runA, bind_ok, hk] at h
    obtain ⟨al, ρ, M, S, E, q⟩ := h
    exact mk_sem S Reps.nil q
  · refine (pe_makeW hM F g.room hg hm hb (fun σ => passAt tk σ) ha hdb hst).imp fun σ H Q h => ?_
    unfold rnE at h; simp only [runE, hk] at h
    refine (tG_one (R := rA Z.toGy) h).mono ?_
    rintro vs H1 ⟨al, M, ds, S, r, q⟩
    exact mk_sem S r q
theorem ins_at {H : Hp} {al : Am} {M : Store} {m k : Nat} {v : V} {fs : List (Nat × D)} (S : Sto Z.toGx H al M) (r : Rep Z.K H al M (.ptr m) v) (e : M[m]? = some (.ins k fs)) :
    ∃ a dx vfs, v = .ref a ∧ al.ad[m]? = some a ∧ H a = some (.ins (Z.cl k) dx vfs) ∧ Fsr Z.nm Z.K H al M fs vfs ∧ (∀ p ∈ fs, p.1 < Z.P.nms.length) ∧ live M m := by
  rw [Rep] at r
  obtain ⟨a, rfl, h1⟩ := r
  obtain ⟨dx, vfs, h2, h3, h4⟩ := S.at_ m _ a e h1
  exact ⟨a, dx, vfs, rfl, h1, h2, h3, h4, ⟨_, e, by simp⟩⟩
theorem z_meth {o : Xp} {m : Nat} {as : Xps} {l : Expr} {es : List Expr} {x : Str} {apos : Pos} (g : Good Z c cx n) (tk : Takes cx W) (hm : c.nmd m x = true) (hb : okBase l = true) (hn : es.length < 30) (hli : (apos.endLine == pos.line) = true) (hst : es.all noStar = true)
    (hl : (as = .nil ∧ es = []) ∨ ∃ e es', es = e :: es') (ho : PEz Z n cx W o l) (ha : PAz Z n cx W as es) : PEz Z n cx W (.meth o m as) (.Call (.Attribute l x apos) es [] pos) := by
  obtain ⟨rfl, hml⟩ := Ck.nmd_of g.P hm
  have hr : Room (2 * n + 1) cx.A := g.room.mono (by omega)
  have key : ∀ {t : TA} {σ : L2.St} {H : Hp} {Q : VK}, (∀ (σ : L2.St) (H1 : Hp) (Q : List V → Hp → Prop), tA Z.toGy W (rnA Z n as) σ H1 Q → t σ H1 Q) → tE Z.toGy W (rnE Z n (.meth o m as)) σ H Q →
      tMethD cx.K cx.prog cx.w cx.mg cx.base (L2.CX cx.prog cx.w) (2 * n + 1) (Z.nm m) (WE W) (tE Z.toGy W (rnE Z n o)) t σ H Q := by
    intro t σ H Q ht h
    unfold rnE at h; simp only [runE] at h
    refine (tG_then (R := rE Z.toGy) (f := rnE Z n o) (g := fun ρ x M1 => match x with
      | .ptr n' => match M1[n']? with
        | some (.ins c fs) => match (Z.P.cls[c]?).bind fun k => findM m k.meths with
          | some g => match getF m fs with
            | none => (rnA Z n as ρ M1).bind fun xs M2 => callF Z.P Z.wf n g (.ptr n' :: xs) M2
            | some _ => .stuck
          | none => .stuck
        | _ => .stuck
      | _ => .stuck) h).mono ?_
    rintro v H1 ⟨al, ρ, M, d, S, E, r1, p⟩
    try dsimp only at p
    split at p
    · rename_i n'
      split at p
      · rename_i kc fs e1
        split at p
        · rename_i gf e2
          split at p
          · rename_i e3
            obtain ⟨kl, hkl, hfm⟩ := Option.bind_eq_some_iff.mp e2
            obtain ⟨a, dx, vfs, rfl, h1, h2, h3, h4, _⟩ := ins_at S r1 e1
            obtain ⟨hM, j, hj⟩ := g.lnk.meth kc kl m gf hkl hfm
            obtain ⟨⟨fd, ps, F, hbd⟩, kp⟩ := g.lnk.fn gf j hj
            have hlk := (Fsr.get g.lnk.nms hml h4 h3).2 e3
            refine ⟨a, _, dx, vfs, _, fd, ps, _, rfl, h2, hlk, g.lnk.cls kc kl hkl, hM, F, hbd, ht σ H1 _ ⟨al, ρ, M, S, E, (Po.bind (R := rA Z.toGy) p).mono ?_⟩⟩
            rintro vs H2 ⟨al2, M2, ds, s2, S2, r2, p2⟩
            exact ⟨al2, M2, .ptr n' :: ds, S2, Reps.cons (Rep.mono S s2 _ _ r1) r2, p2.slot⟩
          · exact p.elim
        · exact p.elim
      · exact p.elim
    · exact p.elim
  rcases hl with ⟨rfl, rfl⟩ | ⟨e, es', rfl⟩
  · refine (pe_methD0 ho hr (fun σ => passAt tk σ) hb hli).imp fun σ H Q h => key (fun σ H1 Q h => ?_) h
    obtain ⟨al, ρ, M, S, E, q⟩ := h
    simp only [rnA, runA] at q
    exact q.ok S Reps.nil
  · exact (pe_methD ho hr (fun σ => passAt tk σ) ha hb hst hn hli).imp fun σ H Q h => key (fun σ H1 Q h => h) h

theorem biN_in : ∀ f : Bi, biN f ∈ blts
  | .len => by simp [biN, blts] | .sum => by simp [biN, blts] | .max1 => by simp [biN, blts] | .max2 => by simp [biN, blts] | .min1 => by simp [biN, blts] | .min2 => by simp [biN, blts] | .abs => by simp [biN, blts] | .int => by simp [biN, blts] | .sorted => by simp [biN, blts]
  | .list _ => by simp [biN, blts] | .tuple => by simp [biN, blts] | .any => by simp [biN, blts] | .all => by simp [biN, blts]
theorem pe_callV {f : Bi} {r : List V → Hp → VK → Prop} {x : Str} {e : Expr} {es : List Expr} {t : TA} {p : Pos} (hc : CallR cx (biV f) r) (hg : Gl cx x) (hm : cx.mg x = none) (hv : bootBuiltins x = some (biV f)) (ha : PA cx (e :: es) t) (hn : x ≠ "__name__") (hdb : (x == ("__debug__" : Str)) = false)
    (hs : (e :: es).all noStar = true) : PE cx (.Call (.Name x p) (e :: es) [] pos) (tCB r t) := by
  rw [List.all_cons, Bool.and_eq_true] at hs
  have h1 := starEach_cons (env := cx.env) (es := es) hs.1
  have h2 := star_plain (env := cx.env) (pos := pos) hs.2
  cases f <;> first
    | exact pe_callB hc hg hm hv ha hn hdb h1 h2
    | exact pe_callTy hc hg hm hv ha hn hdb h1 h2
theorem z_bi {f : Bi} {as : Xps} {x : Str} {e : Expr} {es : List Expr} {p : Pos} (g : Good Z c cx n) (hx : x = biN f) (hc : c.blt x = true) (hst : (e :: es).all noStar = true) (ha : PAz Z n cx W as (e :: es)) : PEz Z n cx W (.bi f as) (.Call (.Name x p) (e :: es) [] pos) := by
  subst hx
  obtain ⟨hg, hdb, hnn⟩ := g.bl hc
  refine (pe_callV (cr_rBi g.calm f) hg (g.lnk.blt _ (biN_in f)) (biBoot f) ha hnn hdb hst).imp fun σ H Q h => ?_
  unfold rnE at h; simp only [runE] at h
  refine (tG_one (R := rA Z.toGy) h).mono ?_
  rintro vs H1 ⟨al, M, ds, S, r, q⟩
  rw [g.lnk.K]
  exact bi_sem S r q
theorem z_isi {a : Xp} {t : Ty} {l : Expr} {x y : Str} {p p' : Pos} (g : Good Z c cx n) (hx : x = "isinstance") (hc : c.blt x = true) (hy : y = Str.ofString (tyN t)) (hc' : c.blt y = true) (hst : noStar l = true) (ha : PEz Z n cx W a l) :
    PEz Z n cx W (.isi a t) (.Call (.Name x p) [l, .Name y p'] [] pos) := by
  subst hx hy
  obtain ⟨hg, hdb, hnn⟩ := g.bl hc
  obtain ⟨hg', hdb', hnn'⟩ := g.bl hc'
  have hy : PE cx (.Name (Str.ofString (tyN t)) p') (tC (.ty (tyN t))) := pe_bltn hg' (g.lnk.blt _ (by cases t <;> simp [tyN, blts] <;> decide)) (tyBoot t) rfl hnn' hdb'
  have hA : PA cx [l, .Name (Str.ofString (tyN t)) p'] (tCons (tE Z.toGy W (rnE Z n a)) (tCons (tC (.ty (tyN t))) tNil)) := pa_cons ha (pa_cons hy pa_nil) (starEach_cons hst)
  refine (pe_callB call_isi hg (g.lnk.blt _ (by simp [blts])) (by decide +kernel) hA hnn hdb (starEach_cons hst) rfl).imp fun σ H Q h => ?_
  unfold rnE at h; simp only [runE] at h
  refine (tG_one (R := rE Z.toGy) h).mono ?_
  rintro v H1 ⟨al, M, d, S, r, q⟩
  split at q
  · rename_i b e
    show rIsi cx.K [v, .ty (tyN t)] H1 Q
    rw [g.lnk.K]
    exact isTy_sem S r e (q.ok S bl_rep)
  · exact q.elim
theorem z_fld {o : Xp} {f : Nat} {l : Expr} {x : Str} (g : Good Z c cx n) (hm : c.nmd f x = true) (hb : okBase l = true) (ho : PEz Z n cx W o l) : PEz Z n cx W (.fld o f) (.Attribute l x pos) := by
  obtain ⟨rfl, hml⟩ := Ck.nmd_of g.P hm
  refine (pe_fld ho (okBase_of hb)).imp fun σ H Q h => ?_
  unfold rnE at h; simp only [runE] at h
  refine (tG_one (R := rE Z.toGy) h).mono ?_
  rintro v H1 ⟨al, M, d, S, r1, p⟩
  split at p
  · split at p
    · rename_i kc fs e1
      split at p
      · rename_i hF
        split at p
        · rename_i d' e3
          obtain ⟨a, dx, vfs, rfl, h1, h2, h3, h4, _⟩ := ins_at S r1 e1
          obtain ⟨u, hu, ru⟩ := (Fsr.get g.lnk.nms hml h4 h3).1 _ e3
          unfold hasF at hF
          split at hF
          · rename_i kl hkl
            exact ⟨a, _, dx, vfs, u, rfl, h2, g.lnk.cls kc kl hkl, g.lnk.noat kc kl f hkl (by simpa using hF), hu, p.ok S ru⟩
          · cases hF
        · exact p.elim
      · exact p.elim
    · exact p.elim
  · exact p.elim
theorem z_ix {o i : Xp} {l r : Expr} (g : Good Z c cx n) (hs : noSlice r = true) (ho : PEz Z n cx W o l) (hi : PEz Z n cx W i r) : PEz Z n cx W (.ix o i) (.Subscript l r pos) := (pe_ix ix_seq ho hi (plainIx_of hs)).imp fun σ H Q h => by
  unfold rnE at h; simp only [runE] at h
  refine (tG_two h).mono fun x H1 h1 => h1.mono ?_
  rintro y H2 ⟨al, M, a, b, S, r1, r2, p⟩
  rw [g.lnk.K]
  exact ix_sem S r1 r2 p
theorem z_no : PO cx none (tO Z.toGy W (rnO Z n .no)) := po_none.imp fun σ H Q h => by
  obtain ⟨al, ρ, M, S, E, p⟩ := h
  simp only [rnO, runO] at p
  exact p.ok S rfl
theorem z_so {a : Xp} {e : Expr} (ha : PEz Z n cx W a e) : PO cx (some e) (tO Z.toGy W (rnO Z n (.so a))) := (po_some ha).imp fun σ H Q h => by
  unfold rnO at h; simp only [runO] at h
  refine (tG_one (R := rE Z.toGy) h).mono ?_
  rintro v H1 ⟨al, M, d, S, r, q⟩
  split at q
  · cases rep_int (X := Z.toGy) r; exact ⟨_, rfl, q.ok S rfl⟩
  · exact q.elim
theorem z_sl {o : Xp} {lo hi : Op} {l : Expr} {lo' hi' : Option Expr} {p2 : Pos} (g : Good Z c cx n) (ho : PEz Z n cx W o l) (hl : PO cx lo' (tO Z.toGy W (rnO Z n lo))) (hh : PO cx hi' (tO Z.toGy W (rnO Z n hi))) : PEz Z n cx W (.sl o lo hi) (.Subscript l (.Slice lo' hi' none p2) pos) :=
  (pe_slice sl_ok ho hl hh).imp fun σ H Q h => by
    unfold rnE at h; simp only [runE] at h
    refine (tG_then (R := rE Z.toGy) (f := rnE Z n o) (g := fun ρ x M1 => (rnO Z n lo ρ M1).bind fun l M2 => (rnO Z n hi ρ M2).bind fun h M3 => sld M3 x l h) h).mono ?_
    rintro x H1 ⟨al, ρ, M, d, S, E, r1, p⟩
    refine ⟨al, ρ, M, S, E, (Po.bind (R := rId) p).mono ?_⟩
    rintro l' H2 ⟨al2, M2, l2, s2, S2, e2, p2⟩
    cases e2
    refine ⟨al2, ρ, M2, S2, E.mono S s2, (Po.bind (R := rId) p2).mono ?_⟩
    rintro h' H3 ⟨al3, M3, h2, s3, S3, e3, p3⟩
    cases e3
    rw [g.lnk.K]
    exact sl_sem S3 (Rep.mono S (s2.trans s3) _ _ r1) p3
theorem z_tup {as : Xps} {es : List Expr} {k : Nat} (ha : PAz Z n cx W as es) : PEz Z n cx W (.tup as) (.Tuple es k pos) := (pe_tup ha).imp fun σ H Q h => by
  unfold rnE at h; simp only [runE] at h
  refine (tG_one (R := rA Z.toGy) h).mono ?_
  rintro vs H1 ⟨al, M, ds, S, r, q⟩
  have hl := Reps.length r
  split at q
  · rename_i hz
    exact ⟨by rw [hl]; exact hz, fun p hp => Po.newT S r hp q⟩
  · exact q.elim
theorem z_lst {hot : Bool} {as : Xps} {es : List Expr} (ha : PAz Z n cx W as es) : PEz Z n cx W (.lst hot as) (.List es pos) := (pe_lst ha).imp fun σ H Q h => by
  unfold rnE at h; simp only [runE] at h
  refine (tG_one (R := rA Z.toGy) h).mono ?_
  rintro vs H1 ⟨al, M, ds, S, r, q⟩
  have hl := Reps.length r
  split at q
  · rename_i hz
    exact ⟨by rw [hl]; exact hz, fun p hp => Po.newL S r hp q⟩
  · exact q.elim
theorem z_frz {a : Xp} {e : Expr} (ha : PEz Z n cx W a e) : PEz Z n cx W (.frz a) e := ha.imp fun σ H Q h => by
  unfold rnE at h; simp only [runE] at h
  refine (tG_one (R := rE Z.toGy) h).mono ?_
  rintro v H1 ⟨al, M, d, S, r, q⟩
  split at q
  · rename_i m
    split at q
    · rename_i xs e1
      obtain ⟨a, vs, rfl, h1, h2, h3, l⟩ := ptr_at S r e1
      refine q al H1 _ (Stp.drop l) (S.drop l) ?_
      show Rep _ _ _ _ _ _
      rw [Rep]
      exact ⟨a, vs, rfl, h2, S.cold_of_drop l h1, Reps.mono S (Stp.drop l) _ _ h3⟩
    · exact q.elim
  · exact q.ok S r
theorem z_lrg {hot : Bool} {a : Xp} {l : Expr} {x y : Str} {p p' p2 : Pos} (g : Good Z c cx n) (hx : x = "list") (hc : c.blt x = true) (hy : y = "range") (hc' : c.blt y = true) (hst : noStar l = true) (ha : PEz Z n cx W a l) : PEz Z n cx W (.lrg hot a) (.Call (.Name x p) [.Call (.Name y p') [l] [] p2] [] pos) := by
  subst hx hy
  obtain ⟨hg, _, _⟩ := g.bl hc
  obtain ⟨hg', _, _⟩ := g.bl hc'
  refine (pe_listRg g.calm hg (g.lnk.blt _ (by simp [blts])) (prg_1 hg' (g.lnk.blt _ (by simp [blts])) ha (starEach_cons hst)) rfl).imp fun σ H Q h => ?_
  unfold rnE at h; simp only [runE] at h
  refine (tG_one (R := rE Z.toGy) h).mono ?_
  rintro v H1 ⟨al, M, d, S, r, q⟩
  split at q
  · rename_i i
    cases rep_int (X := Z.toGy) r
    split at q
    · rename_i hk
      refine ⟨i, rfl, ⟨by omega, by omega, by omega, by omega, by omega⟩, fun p hp => ?_⟩
      have e1 : rngOf 0 i = ((List.range (i - 0).toNat).map fun (j : Nat) => (0 + (j : Int))).map G.D.int := by unfold rngOf; rw [List.map_map]; rfl
      have e2 : rgV 0 i = ((List.range (i - 0).toNat).map fun (j : Nat) => (0 + (j : Int))).map V.int := by unfold rgV; rw [List.map_map]; rfl
      rw [e2]
      exact Po.newL S (by rw [e1]; exact Reps.of_ints _) hp q
    · exact q.elim
  · exact q.elim
theorem z_bm {f : Bm} {o : Xp} {as : Xps} {l : Expr} {es : List Expr} {x : Str} {apos : Pos} (g : Good Z c cx n) (hx : x = bmN f) (hb : okBase l = true) (hn : es.length < 30) (hli : (apos.endLine == pos.line) = true) (hst : es.all noStar = true)
    (hl : (as = .nil ∧ es = [] ∧ f = .pop) ∨ ∃ e es', es = e :: es' ∧ f ≠ .pop) (ho : PEz Z n cx W o l) (ha : PAz Z n cx W as es) : PEz Z n cx W (.bm f o as) (.Call (.Attribute l x apos) es [] pos) := by
  subst hx
  have key : ∀ {t : TA} {σ : L2.St} {H : Hp} {Q : VK}, (∀ (σ : L2.St) (H1 : Hp) (Q : List V → Hp → Prop), tA Z.toGy W (rnA Z n as) σ H1 Q → t σ H1 Q) → tE Z.toGy W (rnE Z n (.bm f o as)) σ H Q →
      tE Z.toGy W (rnE Z n o) σ H (fun x H1 => tyV cx.K "list" x H1 ∧ t σ H1 fun xs H2 => rBm cx.K f x xs H2 Q) := by
    intro t σ H Q ht h
    unfold rnE at h; simp only [runE] at h
    refine (tG_then (R := rE Z.toGy) (f := rnE Z n o) (g := fun ρ x M1 => match (listOf M1 x).isSome with
      | true => (rnA Z n as ρ M1).bind fun xs M2 => bmrun f x xs M2
      | false => .stuck) h).mono ?_
    rintro v H1 ⟨al, ρ, M, d, S, E, r1, p⟩
    try dsimp only at p
    split at p
    · rename_i hs
      obtain ⟨ds, eds⟩ := Option.isSome_iff_exists.mp hs
      obtain ⟨a, vs, rfl, h1, h2⟩ := listOf_at S r1 eds
      refine ⟨.inl ⟨rfl, vs, SqL.of h1⟩, ht σ H1 _ ⟨al, ρ, M, S, E, (Po.bind (R := rA Z.toGy) p).mono ?_⟩⟩
      rintro ws H2 ⟨al2, M2, es', s2, S2, r2, p2⟩
      rw [g.lnk.K]
      exact bm_sem S2 (Rep.mono S s2 _ _ r1) r2 p2
    · exact p.elim
  rcases hl with ⟨rfl, rfl, rfl⟩ | ⟨e, es', rfl, hf⟩
  · refine (pe_bm0 PySem.F.plainAttrs_list PySem.F.slot_list_pop PySem.F.type_list_pop mt_pop ho (okBase_of hb) hli).imp fun σ H Q h => key (t := tNil) (fun σ H1 Q h => ?_) h
    obtain ⟨al, ρ, M, S, E, q⟩ := h
    simp only [rnA, runA] at q
    exact q.ok S Reps.nil
  · have hst' := hst
    rw [List.all_cons, Bool.and_eq_true] at hst'
    have h1 := starEach_cons (env := cx.env) (es := es') hst'.1
    have h2 := star_plain (env := cx.env) (pos := pos) hst'.2
    cases f with
    | append => exact (pe_bm PySem.F.plainAttrs_list PySem.F.slot_list_append PySem.F.type_list_append mt_append ho ha (okBase_of hb) (few_of hst hn) hli h1 h2).imp fun σ H Q h => key (fun σ H1 Q h => h) h
    | popAt => exact (pe_bm PySem.F.plainAttrs_list PySem.F.slot_list_pop PySem.F.type_list_pop mt_popAt ho ha (okBase_of hb) (few_of hst hn) hli h1 h2).imp fun σ H Q h => key (fun σ H1 Q h => h) h
    | pop => exact absurd rfl hf
    | index => exact (pe_bm PySem.F.plainAttrs_list PySem.F.slot_list_index PySem.F.type_list_index mt_index ho ha (okBase_of hb) (few_of hst hn) hli h1 h2).imp fun σ H Q h => key (fun σ H1 Q h => h) h
end
end G

/-! GIt -/
set_option maxRecDepth 100000
set_option maxHeartbeats 4000000
namespace L2
open PySem PySem.Spec PyProof.Rows
theorem PG.imp {cx : Cx} {e : Expr} {t t' : TG} (h : PG cx e t) (i : ∀ v σ H Q, t' v σ H Q → t v σ H Q) : PG cx e t' := ⟨fun pins s σ H v u Q I r q => h.run pins s σ H v u Q I r (i v σ H Q q)⟩
theorem PG.or {cx : Cx} {e : Expr} {t t' : TG} (h : PG cx e t) (h' : PG cx e t') : PG cx e (fun v σ H Q => t v σ H Q ∨ t' v σ H Q) := ⟨fun pins s σ H v u Q I r q => by
  rcases q with q | q
  · exact h.run pins s σ H v u Q I r q
  · exact h'.run pins s σ H v u Q I r q⟩
theorem PI.imp {cx : Cx} {tg e : Expr} {t t' : TI} (h : PI cx tg e t) (i : ∀ σ H R, t' σ H R → t σ H R) : PI cx tg e t' := ⟨fun pins s σ H R I q => h.run pins s σ H R I (i σ H R q)⟩
/-- a list or a tuple is walked -/
def iVal (K : PySem.W.Frag) (tl : TE) : TI := fun σ H R => tl σ H fun x H1 => ∃ a, x = .ref a ∧ (((∃ xs, SqL K H1 a xs) ∧ R (Itl K a) H1) ∨ ((∃ xs, SqT K H1 a xs) ∧ R (Itt K a) H1))
theorem pi_val {X : Cx} {tg l : Expr} {tl : TE} (hl : PE X l tl) : PI X tg l (iVal X.K tl) := by
  refine ⟨fun pins s σ H R I h => ?_⟩
  refine thn (hl.run pins s σ H _ I h) fun v s1 ⟨x, H1, I1, r1, q1⟩ => ?_
  obtain ⟨a, e, ⟨⟨xs, hq⟩, q⟩ | ⟨⟨xs, hq⟩, q⟩⟩ := q1
  · subst e
    cases r1
    obtain ⟨its, rv, p, hz⟩ := I1.list hq
    refine wpAny_pyIter_list p.isList ?_
    refine ⟨s1.heap.objs.size, [s1.heap.objs.size], _, _, H1, rfl, I1.kept (t' := s1.toks) fun b o e => Heap.get?_push_of_some _ e, turn_list a _, ⟨_, Heap.get?_push_size _ rfl, rfl, rfl⟩, fun b hb => ?_, q⟩
    have e : b = s1.heap.objs.size := by simpa using hb
    subst e
    exact I1.fpOk (Nat.le_refl _) (I1.hok.fresh (Nat.le_refl _))
  · subst e
    cases r1
    obtain ⟨its, rv, p, hz⟩ := I1.tuple hq
    refine wpAny_pyIter_tuple (show s1.heap.IsTuple a its.toArray from p) ?_
    refine ⟨s1.heap.objs.size, [s1.heap.objs.size], _, _, H1, rfl, I1.kept (t' := s1.toks) fun b o e => Heap.get?_push_of_some _ e, turn_tuple a _, ⟨_, Heap.get?_push_size _ rfl, rfl, rfl⟩, fun b hb => ?_, q⟩
    have e : b = s1.heap.objs.size := by simpa using hb
    subst e
    exact I1.fpOk (Nat.le_refl _) (I1.hok.fresh (Nat.le_refl _))

theorem wipe_get {σ : L2.St} {j : Nat} : ∀ {vs : List Nat}, (wipe σ vs)[j]? = if j ∈ vs ∧ j < σ.length then some none else σ[j]?
  | [] => by simp [wipe]
  | v :: vs => by
    rw [wipe]
    by_cases hv : v = j
    · subst hv
      by_cases hl : v < σ.length
      · rw [List.getElem?_set_self (by rw [wipe_length]; exact hl), if_pos ⟨List.mem_cons_self, hl⟩]
      · rw [List.getElem?_eq_none (by rw [List.length_set, wipe_length]; omega), if_neg (fun q => hl q.2), List.getElem?_eq_none (by omega)]
    · rw [List.getElem?_set_ne hv, wipe_get]
      have : j ∈ v :: vs ↔ j ∈ vs := by rw [List.mem_cons]; constructor; (intro h; rcases h with h | h; exact absurd h.symm hv; exact h); exact Or.inr
      simp only [this]
theorem wipe_set {σ : L2.St} {i : Nat} {o : Option V} {vs : List Nat} (h : i ∈ vs) : wipe (σ.set i o) vs = wipe σ vs := by
  apply List.ext_getElem?
  intro j
  rw [wipe_get, wipe_get, List.length_set]
  by_cases hj : i = j
  · subst hj
    by_cases hl : i < σ.length
    · rw [if_pos ⟨h, hl⟩, if_pos ⟨h, hl⟩]
    · rw [if_neg (fun q => hl q.2), if_neg (fun q => hl q.2), List.getElem?_eq_none (by rw [List.length_set]; omega), List.getElem?_eq_none (by omega)]
  · rw [List.getElem?_set_ne hj]
end L2
namespace G
open PySem PySem.Spec PyProof.Rows L2

def tGp (Z : Gz) (g : Gp) : TG := fun v σ H Q => ∃ al ρ M d ρ', Sto Z.toGx H al M ∧ Envr Z.K H al M σ ρ ∧ Rep Z.K H al M d v ∧ bindG g d ρ = some ρ' ∧
  ∀ σ', Envr Z.K H al M σ' ρ' → wipe σ' (gslots g) = wipe σ (gslots g) → Q σ' H
def setAll (is : List Nat) (vs : List V) (σ : L2.St) : L2.St := (is.zip vs).foldl (fun σ p => σ.set p.1 (some p.2)) σ
def gNames : List Nat → TGs
  | [] => gNil
  | i :: is => gCons (gName i) (gNames is)
theorem gNames_sem : ∀ {is : List Nat} {vs : List V} {σ : L2.St} {H : Hp} {Q : L2.St → Hp → Prop}, vs.length = is.length → Q (setAll is vs σ) H → gNames is vs σ H Q
  | [], vs, σ, H, Q, hl, h => ⟨List.eq_nil_of_length_eq_zero hl, by
      have : vs = [] := List.eq_nil_of_length_eq_zero hl
      subst this; exact h⟩
  | i :: is, [], σ, H, Q, hl, h => by cases hl
  | i :: is, v :: vs, σ, H, Q, hl, h => ⟨v, vs, rfl, gNames_sem (by simpa using hl) h⟩
theorem setAll_wipe {vs : List Nat} : ∀ {is : List Nat} {us : List V} {σ : L2.St}, (∀ i ∈ is, i ∈ vs) → wipe (setAll is us σ) vs = wipe σ vs
  | [], us, σ, _ => rfl
  | i :: is, [], σ, _ => rfl
  | i :: is, u :: us, σ, h => by
    show wipe (setAll is us (σ.set i (some u))) vs = _
    rw [setAll_wipe fun j hj => h j (List.mem_cons_of_mem _ hj), wipe_set (h i List.mem_cons_self)]
theorem setAll_env {K : PySem.W.Frag} {H : Hp} {al : Am} {M : Store} : ∀ {is : List Nat} {ds : List D} {us : List V} {σ : L2.St} {ρ : Rho}, Envr K H al M σ ρ → Reps K H al M ds us →
    Envr K H al M (setAll is us σ) ((is.zip ds).foldl (fun ρ p => ρ.set p.1 (some p.2)) ρ)
  | [], ds, us, σ, ρ, E, r => E
  | i :: is, [], us, σ, ρ, E, r => by rw [Reps] at r; subst r; exact E
  | i :: is, d :: ds, us, σ, ρ, E, r => by
    rw [Reps] at r
    obtain ⟨u, us', e, h1, h2⟩ := r
    subst e
    exact setAll_env (is := is) (E.set h1 i) h2
section
variable {Z : Gz} {n : Nat} {cx : Cx} {c : Ck} {W : WX} {pos : Pos}
theorem Ck.tgt_of (g : Good Z c cx n) {i : Nat} {x : Str} (h : c.tgt i x = true) : cx.N[i]? = some x ∧ L2.Loc cx.env.scope x ∧ (cx.fn x = true ∨ cx.env.scope.names.lookup x = some .local) := by
  unfold Ck.tgt at h
  simp only [Bool.and_eq_true, decide_eq_true_eq, Bool.or_eq_true] at h
  obtain ⟨⟨h1, h2⟩, h3⟩ := h
  rw [g.N]
  refine ⟨h1, g.loc h2, ?_⟩
  rcases h3 with h3 | h3
  · exact .inl (by rw [g.fn]; exact h3)
  · refine .inr ?_
    rw [g.sc]
    split at h3
    · assumption
    · cases h3
theorem Ck.names_of (g : Good Z c cx n) : ∀ {is : List Nat} {es : List Expr}, chkGs c is es = true → PGs cx es (gNames is) ∧ (assignEach es cx.env).length = is.length ∧ (assignEach es cx.env).findIdx? (·.1) = none
  | [], [], _ => ⟨pgs_nil, rfl, rfl⟩
  | [], _ :: _, h => by cases h
  | i :: is, [], h => by cases h
  | i :: is, e :: es, h => by
    cases e with
    | Name x p =>
      have h' : (c.tgt i x && chkGs c is es) = true := h
      rw [Bool.and_eq_true] at h'
      obtain ⟨h1, h2, h3⟩ := Ck.tgt_of g h'.1
      obtain ⟨i1, i2, i3⟩ := Ck.names_of g h'.2
      refine ⟨pgs_cons (pg_name (by rw [g.N]; exact g.nd) h1 h2 h3) i1 rfl, ?_, ?_⟩
      · show (assignEach es cx.env).length + 1 = _
        rw [i2]; rfl
      · show List.findIdx? (·.1) ((false, _) :: assignEach es cx.env) = none
        rw [List.findIdx?_cons, i3]; rfl
    | _ => cases h
theorem z_tgt (g : Good Z c cx n) {gp : Gp} {tg : Expr} (h : chkG c gp tg = true) : PG cx tg (tGp Z gp) := by
  cases gp with
  | n i =>
    cases tg with
    | Name x p =>
      obtain ⟨h1, h2, h3⟩ := Ck.tgt_of g (show c.tgt i x = true from h)
      refine (pg_name (by rw [g.N]; exact g.nd) h1 h2 h3).imp fun v σ H Q hh => ?_
      obtain ⟨al, ρ, M, d, ρ', S, E, r, e, k⟩ := hh
      simp only [bindG, Option.some.injEq] at e
      subst e
      exact k _ (E.set r i) (wipe_set List.mem_cons_self)
    | _ => cases h
  | t is =>
    cases tg with
    | Tuple es k p =>
      obtain ⟨i1, i2, i3⟩ := Ck.names_of g (show chkGs c is es = true from h)
      refine ((pg_tup (k := k) g.calm i1 i2 i3).or (pg_lst (k := k) g.calm i1 i2 i3)).imp fun v σ H Q hh => ?_
      obtain ⟨al, ρ, M, d, ρ', S, E, r, e, kk⟩ := hh
      cases d with
      | tup ds =>
        simp only [bindG] at e
        split at e
        · rename_i hl
          cases e
          obtain ⟨a, vs, rfl, h1, h2⟩ := tup_at (X := Z.toGy) r
          have hvl : vs.length = is.length := by rw [h2.length]; exact hl
          exact .inl ⟨a, vs, rfl, SqT.of h1, hvl, gNames_sem hvl (kk _ (setAll_env E h2) (setAll_wipe fun _ h => h))⟩
        · cases e
      | lst ds =>
        simp only [bindG] at e
        split at e
        · rename_i hl
          cases e
          obtain ⟨a, vs, rfl, h1, h2⟩ := listOf_at (X := Z.toGy) S r (ds := ds) rfl
          have hvl : vs.length = is.length := by rw [h2.length]; exact hl
          exact .inr ⟨a, vs, rfl, SqL.of h1, hvl, gNames_sem hvl (kk _ (setAll_env E h2) (setAll_wipe fun _ h => h))⟩
        · cases e
      | _ => simp [bindG] at e
    | _ => cases h

def rI (Z : Gz) : Rl Wk It := fun H al M k J => match k with
  | .items xs => (∃ a d, J = Itl Z.K a ∧ Rep Z.K H al M d (.ref a) ∧ (d = .lst xs ∨ ∃ ns, d = .scr ns ∧ xs = ns.map D.int)) ∨ (∃ a, J = Itt Z.K a ∧ Rep Z.K H al M (.tup xs) (.ref a)) ∨
      ∃ lo k, J = Itr lo k ∧ xs = (List.range k).map fun (i : Nat) => D.int (lo + (i : Int))
  | .hot m => ∃ a, J = Itl Z.K a ∧ al.ad[m]? = some a
noncomputable abbrev rnI (Z : Gz) (n : Nat) (x : Ip) : Rho → Store → Res Wk := fun ρ M => runI Z.P Z.wf (callF Z.P Z.wf n) ρ x M
abbrev tI (Z : Gz) (W : WX) (f : Rho → Store → Res Wk) : TI := tG Z.toGy (rI Z) W f
theorem z_ival {a : Xp} {e tg : Expr} (g : Good Z c cx n) (ha : PEz Z n cx W a e) : PI cx tg e (tI Z W (rnI Z n (.val a))) := (pi_val ha).imp fun σ H Q h => by
  unfold rnI at h; simp only [runI] at h
  refine (tG_one (R := rE Z.toGy) h).mono ?_
  rintro v H1 ⟨al, M, d, S, r, q⟩
  rw [g.lnk.K]
  have r' : Rep Z.K H1 al M d v := r
  cases d with
  | lst xs =>
    obtain ⟨a, vs, rfl, h1, h2⟩ := listOf_at (X := Z.toGy) S r' (ds := xs) rfl
    exact ⟨a, rfl, .inl ⟨⟨vs, SqL.of h1⟩, q.ok S (.inl ⟨a, _, rfl, r', .inl rfl⟩)⟩⟩
  | tup xs =>
    obtain ⟨a, vs, rfl, h1, h2⟩ := tup_at (X := Z.toGy) r'
    exact ⟨a, rfl, .inr ⟨⟨vs, SqT.of h1⟩, q.ok S (.inr (.inl ⟨a, rfl, r'⟩))⟩⟩
  | scr ns =>
    have r2 := r'
    rw [Rep] at r2
    obtain ⟨a, rfl, h1⟩ := r2
    exact ⟨a, rfl, .inl ⟨⟨_, h1.sq⟩, q.ok S (.inl ⟨a, _, rfl, r', .inr ⟨ns, rfl, rfl⟩⟩)⟩⟩
  | ptr m =>
    simp only [walkOf] at q
    split at q
    · rename_i k e2
      split at e2
      · rename_i xs e1
        cases e2
        obtain ⟨a, vs, rfl, h0, h1, h2, _⟩ := ptr_at (X := Z.toGy) S r' e1
        exact ⟨a, rfl, .inl ⟨⟨vs, SqL.of h1⟩, q.ok S ⟨a, rfl, h0⟩⟩⟩
      · cases e2
    · exact q.elim
  | non => exact q.elim
  | bl b => exact q.elim
  | int i => exact q.elim
  | str x => exact q.elim
theorem rng_of {i j : Int} (h : rngOk i j = true) : -(2 ^ 62) ≤ i ∧ i < 2 ^ 62 ∧ -(2 ^ 62) ≤ j ∧ j < 2 ^ 62 := by
  unfold rngOk at h
  simp only [Bool.and_eq_true, decide_eq_true_eq] at h
  omega
theorem z_rng1 {a : Xp} {e tg : Expr} {x : Str} {p : Pos} (g : Good Z c cx n) (hx : x = "range") (hc : c.blt x = true) (hst : noStar e = true) (ha : PEz Z n cx W a e) : PI cx tg (.Call (.Name x p) [e] [] pos) (tI Z W (rnI Z n (.rng1 a))) := by
  subst hx
  obtain ⟨hg, _, _⟩ := g.bl hc
  have h1 := starEach_cons (env := cx.env) (es := []) hst
  refine (pi_range1 hg (g.lnk.blt _ (by simp [blts])) (pa_cons ha pa_nil h1) h1).imp fun σ H Q h => ?_
  unfold rnI at h; simp only [runI] at h
  refine (tG_one (R := rE Z.toGy) h).mono ?_
  rintro v H1 ⟨al, M, d, S, r, q⟩
  split at q
  · rename_i i
    cases rep_int (X := Z.toGy) r
    split at q
    · rename_i hk
      obtain ⟨_, _, h3, h4⟩ := rng_of hk
      refine ⟨i, rfl, h3, h4, q.ok S (.inr (.inr ⟨0, i.toNat, rfl, ?_⟩))⟩
      unfold rngOf
      rw [Int.sub_zero]
    · exact q.elim
  · exact q.elim
theorem z_rng2 {a b : Xp} {e e' tg : Expr} {x : Str} {p : Pos} (g : Good Z c cx n) (hx : x = "range") (hc : c.blt x = true) (hst : noStar e = true) (hst' : noStar e' = true) (ha : PEz Z n cx W a e) (hb : PEz Z n cx W b e') : PI cx tg (.Call (.Name x p) [e, e'] [] pos) (tI Z W (rnI Z n (.rng2 a b))) := by
  subst hx
  obtain ⟨hg, _, _⟩ := g.bl hc
  have h2 := starEach_cons (env := cx.env) (es := []) hst'
  have h1 := starEach_cons (env := cx.env) (es := [e']) hst
  refine (pi_range2 hg (g.lnk.blt _ (by simp [blts])) (pa_cons ha (pa_cons hb pa_nil h2) h1) (by rw [h1, h2]; rfl) h2).imp fun σ H Q h => ?_
  unfold rnI at h; simp only [runI] at h
  refine (tG_two h).mono fun x H1 h1 => h1.mono ?_
  rintro y H2 ⟨al, M, a, b, S, r1, r2, q⟩
  split at q
  · rename_i i j
    cases rep_int (X := Z.toGy) r1
    cases rep_int (X := Z.toGy) r2
    split at q
    · rename_i hk
      refine ⟨i, j, rfl, rng_of hk, q.ok S (.inr (.inr ⟨i, (j - i).toNat, rfl, rfl⟩))⟩
    · exact q.elim
  · exact q.elim
theorem rI.mono {H H' : Hp} {al al' : Am} {M M' : Store} {k : Wk} {J : It} (S : Sto Z.toGx H al M) (s : Stp H al M H' al' M') (h : rI Z H al M k J) : rI Z H' al' M' k J := by
  cases k with
  | items xs =>
    rcases h with ⟨a, d, e, r, q⟩ | ⟨a, e, r⟩ | h
    · exact .inl ⟨a, d, e, Rep.mono S s _ _ r, q⟩
    · exact .inr (.inl ⟨a, e, Rep.mono S s _ _ r⟩)
    · exact .inr (.inr h)
  | hot m =>
    obtain ⟨a, e, h⟩ := h
    exact ⟨a, e, s.get h⟩
/-- the walk's turns, by its items -/
theorem seqL_uniq {H : Hp} {a : Addr} {vs : List V} (h : H a = some (.lst vs)) : ∀ {i : Nat} {x : V}, (∀ xs, SqL Z.K H a xs → xs[i]? = some x) → vs[i]? = some x := fun q => q vs (SqL.of h)
theorem rI_stop {H : Hp} {al : Am} {M : Store} {xs : List D} {J : It} {i : Nat} (S : Sto Z.toGx H al M) (h : rI Z H al M (.items xs) J) (hi : xs.length ≤ i) : J.stop i H := by
  rcases h with ⟨a, d, rfl, r, rfl | ⟨ns, rfl, rfl⟩⟩ | ⟨a, rfl, r⟩ | ⟨lo, k, rfl, rfl⟩
  · obtain ⟨b, vs, e, h1, h2⟩ := listOf_at (X := Z.toGy) S r (ds := xs) rfl
    cases e
    exact ⟨vs, SqL.of h1, by rw [h2.length]; exact hi⟩
  · rw [Rep] at r
    obtain ⟨b, e, h1⟩ := r
    cases e
    exact ⟨_, h1.sq, by simpa using hi⟩
  · obtain ⟨b, vs, e, h1, h2⟩ := tup_at (X := Z.toGy) r
    cases e
    exact ⟨vs, SqT.of h1, by rw [h2.length]; exact hi⟩
  · show k ≤ i
    simpa using hi
theorem rI_go {H : Hp} {al : Am} {M : Store} {xs : List D} {J : It} {i : Nat} {d : D} (S : Sto Z.toGx H al M) (h : rI Z H al M (.items xs) J) (hd : xs[i]? = some d) : J.go i H ∧ ∀ x H', J.yld i H x H' → H' = H ∧ Rep Z.K H al M d x := by
  rcases h with ⟨a, d0, rfl, r, rfl | ⟨ns, rfl, rfl⟩⟩ | ⟨a, rfl, r⟩ | ⟨lo, k, rfl, rfl⟩
  · obtain ⟨b, vs, e, h1, h2⟩ := listOf_at (X := Z.toGy) S r (ds := xs) rfl
    cases e
    obtain ⟨v, hv, rv⟩ := h2.get hd
    refine ⟨⟨vs, v, SqL.of h1, hv⟩, fun x H' y => ⟨y.1, ?_⟩⟩
    have := y.2 vs (SqL.of h1)
    rw [hv] at this; cases this; exact rv
  · rw [Rep] at r
    obtain ⟨b, e, h1⟩ := r
    cases e
    obtain ⟨v, hv, rv⟩ := (Reps.of_ints (K := Z.K) (H := H) (al := al) (M := M) ns).get hd
    refine ⟨⟨_, v, h1.sq, hv⟩, fun x H' y => ⟨y.1, ?_⟩⟩
    have := y.2 _ h1.sq
    rw [hv] at this; cases this; exact rv
  · obtain ⟨b, vs, e, h1, h2⟩ := tup_at (X := Z.toGy) r
    cases e
    obtain ⟨v, hv, rv⟩ := h2.get hd
    refine ⟨⟨vs, v, SqT.of h1, hv⟩, fun x H' y => ⟨y.1, ?_⟩⟩
    have := y.2 vs (SqT.of h1)
    rw [hv] at this; cases this; exact rv
  · rw [List.getElem?_map] at hd
    cases e : (List.range k)[i]? with
    | none => rw [e] at hd; cases hd
    | some j =>
      rw [e] at hd
      obtain ⟨hj, hj2⟩ := List.getElem?_eq_some_iff.mp e
      rw [List.getElem_range] at hj2
      subst hj2
      cases hd
      refine ⟨by show i < k; simpa using hj, fun x H' y => ⟨y.1, ?_⟩⟩
      rw [Rep]; exact y.2
theorem rI_hot {H : Hp} {al : Am} {M : Store} {m : Nat} {xs : List D} {J : It} (S : Sto Z.toGx H al M) (h : rI Z H al M (.hot m) J) (e : M[m]? = some (.lst xs)) :
    (∀ i, xs.length ≤ i → J.stop i H) ∧ ∀ i d, xs[i]? = some d → J.go i H ∧ ∀ x H', J.yld i H x H' → H' = H ∧ Rep Z.K H al M d x := by
  obtain ⟨a, rfl, h0⟩ := h
  obtain ⟨vs, h1, h2⟩ := S.at_ m _ a e h0
  refine ⟨fun i hi => ⟨vs, SqL.of h1, by rw [h2.length]; exact hi⟩, fun i d hd => ?_⟩
  obtain ⟨v, hv, rv⟩ := h2.get hd
  refine ⟨⟨vs, v, SqL.of h1, hv⟩, fun x H' y => ⟨y.1, ?_⟩⟩
  have := y.2 vs (SqL.of h1)
  rw [hv] at this; cases this; exact rv
end
end G

/-! GLc -/
set_option maxRecDepth 100000
set_option maxHeartbeats 4000000
namespace G
open PySem PySem.Spec PyProof.Rows L2

section
variable {X : Gx} {K : PySem.W.Frag} {H H' H1 : Hp} {al al' al1 : Am} {M M' M1 : Store} {D : Addr} {o : HO} {ob : Ob}
structure Soft (H : Hp) (al : Am) (M : Store) (D : Addr) : Prop where
  hot : Hot al M D
  tup : ∀ vs, H D ≠ some (.tup vs)
  frz : ∀ ob u, H D ≠ some (.frz ob u)
theorem Sto.soft (S : Sto X H al M) (hD : Hot al M D) : Soft H al M D := ⟨hD, fun vs e => S.tup_nothot e hD, fun ob u e => S.frz_nothot e hD⟩
theorem Scr.updp (S : Soft H al M D) {a : Addr} {ns : List Int} (h : Scr K H a ns) : Scr K (upd H D o) a ns := by
  rcases h with ⟨u, h⟩ | h
  · refine .inl ⟨u, ?_⟩
    rw [upd_ne]; exact h
    rintro rfl; exact S.frz _ _ h
  · exact .inr h
mutual
theorem Rep.updp (S : Soft H al M D) : ∀ (d : G.D) (v : V), Rep K H al M d v → Rep K (upd H D o) al M d v
  | .non, _, h => by rw [Rep] at h ⊢; exact h
  | .bl _, _, h => by rw [Rep] at h ⊢; exact h
  | .int _, _, h => by rw [Rep] at h ⊢; exact h
  | .str _, _, h => by rw [Rep] at h ⊢; exact h
  | .tup ds, v, h => by
    rw [Rep] at h ⊢
    obtain ⟨a, vs, e, h1, h2⟩ := h
    exact ⟨a, vs, e, by rw [upd_ne]; exact h1; rintro rfl; exact S.tup _ h1, Reps.updp S ds vs h2⟩
  | .lst ds, v, h => by
    rw [Rep] at h ⊢
    obtain ⟨a, vs, e, h1, h2, h3⟩ := h
    exact ⟨a, vs, e, by rw [upd_ne]; exact h1; rintro rfl; exact h2 S.hot, h2, Reps.updp S ds vs h3⟩
  | .scr ns, v, h => by
    rw [Rep] at h ⊢
    obtain ⟨a, e, h1⟩ := h
    exact ⟨a, e, h1.updp S⟩
  | .ptr n, v, h => by rw [Rep] at h ⊢; exact h
theorem Reps.updp (S : Soft H al M D) : ∀ (ds : List G.D) (vs : List V), Reps K H al M ds vs → Reps K (upd H D o) al M ds vs
  | [], _, h => by rw [Reps] at h ⊢; exact h
  | d :: ds, vs, h => by
    rw [Reps] at h ⊢
    obtain ⟨v, r, e, h1, h2⟩ := h
    exact ⟨v, r, e, Rep.updp S d v h1, Reps.updp S ds r h2⟩
end
theorem Fsr.updp {nm : Nat → Str} (S : Soft H al M D) : ∀ (fs : List (Nat × G.D)) (vs : List (Str × V)), Fsr nm K H al M fs vs → Fsr nm K (upd H D o) al M fs vs
  | [], _, h => h
  | p :: ds, vs, h => by
    obtain ⟨v, r, e, h1, h2⟩ := h
    exact ⟨v, r, e, Rep.updp S _ v h1, Fsr.updp S ds r h2⟩
theorem Envr.updp {σ : L2.St} {ρ : Rho} (S : Soft H al M D) (h : Envr K H al M σ ρ) : Envr K (upd H D o) al M σ ρ :=
  ⟨h.len, fun i d e => let ⟨v, e1, r⟩ := h.at_ i d e; ⟨v, e1, Rep.updp S _ _ r⟩⟩
theorem Sto.updp (S : Sto X H al M) (hD : al.pv D) {vs : List V} : Sto X (upd H D (.lst vs)) al M := by
  have hh : Soft H al M D := S.soft (.inr hD)
  refine ⟨S.len, fun n u a e ha => ?_, S.inj, fun a ha => ?_, S.pvd⟩
  · have old := S.at_ n u a e ha
    have hne : u ≠ .dead → a ≠ D := by
      intro hu
      rintro rfl
      exact S.pvd n a ⟨u, e, hu⟩ ha hD
    cases u with
    | dead => trivial
    | lst ds => obtain ⟨vs, e1, r⟩ := old; exact ⟨vs, by rw [upd_ne (hne (by simp))]; exact e1, Reps.updp hh _ _ r⟩
    | ins c fs => obtain ⟨dx, vfs, e1, r, q⟩ := old; exact ⟨dx, vfs, by rw [upd_ne (hne (by simp))]; exact e1, Fsr.updp hh _ _ r, q⟩
  · by_cases q : a = D
    · subst q; exact ⟨vs, upd_same⟩
    · rw [upd_ne q]; exact S.pvl a ha

def Am.pr (al : Am) (D : Addr) : Am := ⟨al.ad, fun a => al.pv a ∨ a = D⟩
structure Stu (H1 : Hp) (al1 : Am) (M1 : Store) (D : Addr) (H : Hp) (al : Am) (M : Store) : Prop where
  pv : al.pv = fun a => al1.pv a ∨ a = D
  pub : Stp H1 al1 M1 H ⟨al.ad, al1.pv⟩ M
theorem Stu.step (u : Stu H1 al1 M1 D H al M) (hD : H1 D = none) (s : Stp H al M H' al' M') : Stu H1 al1 M1 D H' al' M' := by
  refine ⟨by rw [s.pv, u.pv], ?_⟩
  have p := u.pub
  refine ⟨?_, rfl, fun a ha => ?_, fun a o e h => ?_, fun a h => s.dom a (p.dom a h), fun n hn hl => p.alive n hn (s.alive n ?_ hl), fun n a hn e => ?_⟩
  · obtain ⟨m1, e1⟩ := p.pre
    obtain ⟨m2, e2⟩ := s.pre
    exact ⟨m1 ++ m2, by show al'.ad = _; rw [e2, show al.ad = _ from e1, List.append_assoc]⟩
  · exact (s.pvk a (by rw [u.pv]; exact .inl ha)).trans (p.pvk a ha)
  · refine s.keep a o (p.keep a o e h) ?_
    rintro (⟨n, hl, e2⟩ | hp)
    · exact p.nothot h (by rw [e]; simp) (.inl ⟨n, hl, e2⟩)
    · rw [u.pv] at hp
      rcases hp with hp | rfl
      · exact h (.inr hp)
      · rw [hD] at e; cases e
  · obtain ⟨m1, e1⟩ := p.pre
    rw [show al.ad = _ from e1, List.length_append]; omega
  · by_cases h1 : n < al.ad.length
    · refine p.new n a hn ?_
      obtain ⟨m2, e2⟩ := s.pre
      have e : al'.ad[n]? = some a := e
      rw [e2, List.getElem?_append_left h1] at e
      exact e
    · have h2 := s.new n a (Nat.le_of_not_lt h1) e
      cases q : H1 a with
      | none => rfl
      | some o => exact absurd h2 (p.dom a (by rw [q]; simp))
theorem Stu.updp (S1 : Sto X H1 al1 M1) (u : Stu H1 al1 M1 D H al M) (hD : H1 D = none) : Stu H1 al1 M1 D (upd H D o) al M := by
  have p := u.pub
  refine ⟨u.pv, p.pre, rfl, fun a ha => ?_, fun a q e h => ?_, fun a h => ?_, p.alive, p.new⟩
  · rw [upd_ne]; exact p.pvk a ha
    rintro rfl; obtain ⟨vs, e⟩ := S1.pvl a ha; rw [hD] at e; cases e
  · rw [upd_ne]; exact p.keep a q e h
    rintro rfl; rw [hD] at e; cases e
  · by_cases q : a = D
    · subst q; rw [upd_same]; simp
    · rw [upd_ne q]; exact p.dom a h
/-- what was known ahead of D's making -/
theorem Stu.start (S1 : Sto X H1 al1 M1) (hD : H1 D = none) : Stu H1 al1 M1 D (upd H1 D (.lst [])) (al1.pr D) M1 := ⟨rfl, Stp.cold S1 hD⟩
theorem pr_hot {a : Addr} (h : Hot (al.pr D) M a) : Hot al M a ∨ a = D := by
  rcases h with h | h | h
  · exact .inl (.inl h)
  · exact .inl (.inr h)
  · exact .inr h
mutual
theorem Rep.pr (hD : H D = none) : ∀ (d : G.D) (v : V), Rep K H al M d v → Rep K H (al.pr D) M d v
  | .non, _, h => by rw [Rep] at h ⊢; exact h
  | .bl _, _, h => by rw [Rep] at h ⊢; exact h
  | .int _, _, h => by rw [Rep] at h ⊢; exact h
  | .str _, _, h => by rw [Rep] at h ⊢; exact h
  | .tup ds, v, h => by
    rw [Rep] at h ⊢
    obtain ⟨a, vs, e, h1, h2⟩ := h
    exact ⟨a, vs, e, h1, Reps.pr hD ds vs h2⟩
  | .lst ds, v, h => by
    rw [Rep] at h ⊢
    obtain ⟨a, vs, e, h1, h2, h3⟩ := h
    exact ⟨a, vs, e, h1, fun q => (pr_hot q).elim h2 (by rintro rfl; rw [hD] at h1; cases h1), Reps.pr hD ds vs h3⟩
  | .scr ns, v, h => by rw [Rep] at h ⊢; exact h
  | .ptr n, v, h => by rw [Rep] at h ⊢; exact h
theorem Reps.pr (hD : H D = none) : ∀ (ds : List G.D) (vs : List V), Reps K H al M ds vs → Reps K H (al.pr D) M ds vs
  | [], _, h => by rw [Reps] at h ⊢; exact h
  | d :: ds, vs, h => by
    rw [Reps] at h ⊢
    obtain ⟨v, r, e, h1, h2⟩ := h
    exact ⟨v, r, e, Rep.pr hD d v h1, Reps.pr hD ds r h2⟩
end
theorem Fsr.pr {nm : Nat → Str} (hD : H D = none) : ∀ (fs : List (Nat × G.D)) (vs : List (Str × V)), Fsr nm K H al M fs vs → Fsr nm K H (al.pr D) M fs vs
  | [], _, h => h
  | p :: ds, vs, h => by
    obtain ⟨v, r, e, h1, h2⟩ := h
    exact ⟨v, r, e, Rep.pr hD _ v h1, Fsr.pr hD ds r h2⟩
theorem Envr.pr {σ : L2.St} {ρ : Rho} (hD : H D = none) (h : Envr K H al M σ ρ) : Envr K H (al.pr D) M σ ρ :=
  ⟨h.len, fun i d e => let ⟨v, e1, r⟩ := h.at_ i d e; ⟨v, e1, Rep.pr hD _ _ r⟩⟩
theorem soft_new (hD : H D = none) : Soft H (al.pr D) M D := ⟨.inr (.inr rfl), fun vs => by rw [hD]; simp, fun ob u => by rw [hD]; simp⟩
/-- the new list, private -/
theorem Sto.start (S : Sto X H al M) (hD : H D = none) : Sto X (upd H D (.lst [])) (al.pr D) M := by
  have C := S.cold (o := .lst []) hD
  refine ⟨C.len, fun n u a e ha => ?_, C.inj, fun a ha => ?_, fun n a hl ha hp => ?_⟩
  · have old := S.at_ n u a e ha
    have hne : u ≠ .dead → a ≠ D := by
      intro hu
      rintro rfl
      exact S.ne (.inl ⟨n, ⟨u, e, hu⟩, ha⟩) hD
    cases u with
    | dead => trivial
    | lst ds => obtain ⟨vs, e1, r⟩ := old; exact ⟨vs, by rw [upd_ne (hne (by simp))]; exact e1, Reps.updp (soft_new hD) _ _ (Reps.pr hD _ _ r)⟩
    | ins c fs => obtain ⟨dx, vfs, e1, r, q⟩ := old; exact ⟨dx, vfs, by rw [upd_ne (hne (by simp))]; exact e1, Fsr.updp (soft_new hD) _ _ (Fsr.pr hD _ _ r), q⟩
  · rcases ha with ha | rfl
    · exact C.pvl a ha
    · exact ⟨[], upd_same⟩
  · rcases hp with hp | rfl
    · exact C.pvd n a hl ha hp
    · exact S.ne (.inl ⟨n, hl, ha⟩) hD
/-- .. let go as a plain list -/
theorem pub_hot {pv : Addr → Prop} (hpv : ∀ a, pv a → al.pv a) {a : Addr} (h : Hot ⟨al.ad, pv⟩ M a) : Hot al M a := h.elim .inl fun h => .inr (hpv a h)
theorem Sto.pub (S : Sto X H al M) {pv : Addr → Prop} (hpv : ∀ a, pv a → al.pv a) : Sto X H ⟨al.ad, pv⟩ M :=
  ⟨S.len, fun n u a e ha => (S.at_ n u a e ha).reh ⟨⟨[], by simp⟩, fun a => pub_hot hpv⟩, S.inj, fun a ha => S.pvl a (hpv a ha), fun n a hl ha hp => S.pvd n a hl ha (hpv a hp)⟩
/-- .. taken into the store -/
theorem open_reh {pv : Addr → Prop} (len : al.ad.length = M.length) (hpv : ∀ a, pv a → al.pv a) (hD : al.pv D) : Reh al M ⟨al.ad ++ [D], pv⟩ (M ++ [ob]) := by
  refine ⟨⟨[D], rfl⟩, fun a h => ?_⟩
  rcases h with ⟨n, hl, e⟩ | h
  · rcases add_get (al := al) (p := D) e with ⟨h1, e1⟩ | ⟨h1, rfl⟩
    · exact .inl ⟨n, (live_app (by omega)).mp hl, e1⟩
    · exact .inr hD
  · exact .inr (hpv a h)
theorem Sto.opn (S : Sto X H al M) {pv : Addr → Prop} (hpv : ∀ a, pv a → al.pv a) (hD : al.pv D) (hDn : ¬ pv D) (new : Obr X H ⟨al.ad ++ [D], pv⟩ (M ++ [ob]) ob D) : Sto X H ⟨al.ad ++ [D], pv⟩ (M ++ [ob]) := by
  have hS := S.len
  have rh : Reh al M ⟨al.ad ++ [D], pv⟩ (M ++ [ob]) := open_reh S.len hpv hD
  have nd : ∀ n, live M n → al.ad[n]? ≠ some D := fun n hn e => S.pvd n D hn e hD
  refine ⟨by simp [S.len], fun k u b e hb => ?_, fun i j b hi hj ei ej => ?_, fun a ha => S.pvl a (hpv a ha), fun i b hi e => ?_⟩
  · rcases add_get (al := al) (p := D) hb with ⟨hk, hc⟩ | ⟨hk, hc⟩
    · rw [List.getElem?_append_left (by omega)] at e
      exact (S.at_ k u b e hc).reh rh
    · subst hc hk
      rw [hS] at e
      simp at e
      rw [← e]; exact new
  · rcases add_get (al := al) (p := D) ei with ⟨h1, e1⟩ | ⟨h1, e1⟩ <;> rcases add_get (al := al) (p := D) ej with ⟨h2, e2⟩ | ⟨h2, e2⟩
    · exact S.inj i j b ((live_app (by omega)).mp hi) ((live_app (by omega)).mp hj) e1 e2
    · subst e2; exact absurd e1 (nd i ((live_app (by omega)).mp hi))
    · subst e1; exact absurd e2 (nd j ((live_app (by omega)).mp hj))
    · rw [h1, h2]
  · rcases add_get (al := al) (p := D) e with ⟨h1, e1⟩ | ⟨h1, e1⟩
    · exact fun hp => S.pvd i b ((live_app (by omega)).mp hi) e1 (hpv b hp)
    · subst e1; exact hDn
end

theorem wipe_wipe {σ : L2.St} {vs : List Nat} : wipe (wipe σ vs) vs = wipe σ vs := by
  apply List.ext_getElem?
  intro j
  rw [wipe_get, wipe_get, wipe_length]
  by_cases h : j ∈ vs ∧ j < σ.length
  · rw [if_pos h, if_pos h]
  · rw [if_neg h, if_neg h]
theorem wipe_env {K : PySem.W.Frag} {H : Hp} {al : Am} {M : Store} {σ : L2.St} {ρ : Rho} (E : Envr K H al M σ ρ) : ∀ (vs : List Nat), Envr K H al M (wipe σ vs) (wipeR ρ vs)
  | [] => E
  | v :: vs => by
    have ih := wipe_env E vs
    refine ⟨by show ((wipeR ρ vs).set v none).length = ((wipe σ vs).set v none).length; simp [ih.len], fun i d e => ?_⟩
    have e : ((wipeR ρ vs).set v none)[i]? = some (some d) := e
    by_cases hi : v = i
    · subst hi
      by_cases hl : v < (wipeR ρ vs).length
      · rw [List.getElem?_set_self hl] at e; cases e
      · rw [List.getElem?_eq_none (by simpa using hl)] at e; cases e
    · rw [List.getElem?_set_ne hi] at e
      show ∃ w, ((wipe σ vs).set v none)[i]? = _ ∧ _
      rw [List.getElem?_set_ne hi]
      exact ih.at_ i d e

section
variable {Z : Gz} {n : Nat} {W : WX}
/-- between two turns -/
structure LcInv (Z : Gz) (H1 : Hp) (al1 : Am) (M1 : Store) (D : Addr) (σ : L2.St) (ρ : Rho) (k : Wk) (J : It) (H : Hp) (al : Am) (M : Store) (acc : List G.D) : Prop where
  S : Sto Z.toGx H al M
  E : Envr Z.K H al M σ ρ
  u : Stu H1 al1 M1 D H al M
  it : rI Z H al M k J
  acc : ∃ vacc, H D = some (.lst vacc) ∧ Reps Z.K H al M acc vacc
theorem rI.updp {H : Hp} {al : Am} {M : Store} {D : Addr} {o : HO} {k : Wk} {J : It} (S : Soft H al M D) (h : rI Z H al M k J) : rI Z (upd H D o) al M k J := by
  cases k with
  | items xs =>
    rcases h with ⟨a, d, e, r, q⟩ | ⟨a, e, r⟩ | h
    · exact .inl ⟨a, d, e, Rep.updp S _ _ r, q⟩
    · exact .inr (.inl ⟨a, e, Rep.updp S _ _ r⟩)
    · exact .inr (.inr h)
  | hot m => exact h
theorem rI.pr {H : Hp} {al : Am} {M : Store} {D : Addr} {k : Wk} {J : It} (hD : H D = none) (h : rI Z H al M k J) : rI Z H (al.pr D) M k J := by
  cases k with
  | items xs =>
    rcases h with ⟨a, d, e, r, q⟩ | ⟨a, e, r⟩ | h
    · exact .inl ⟨a, d, e, Rep.pr hD _ _ r, q⟩
    · exact .inr (.inl ⟨a, e, Rep.pr hD _ _ r⟩)
    · exact .inr (.inr h)
  | hot m => exact h
abbrev WF : WX := fun _ _ _ _ => False
/-- the machine's turn -/
noncomputable def lcF (Z : Gz) (n : Nat) (gp : Gp) (t : Tps) (e : Xp) (ρ : Rho) : G.D → Store → Res (Option G.D) := fun x M => match bindG gp x (wipeR ρ (gslots gp)) with
  | some ρ' => ((rnTs Z n t ρ' M).noerr).bind fun b M2 => match b with
    | true => ((rnE Z n e ρ' M2).noerr).bind fun y M3 => .ok (some y) M3
    | false => .ok none M2
  | none => .stuck
theorem lc_turn {H1 : Hp} {al1 : Am} {M1 : Store} {D : Addr} {σ : L2.St} {ρ : Rho} {k : Wk} {J : It} {H : Hp} {al : Am} {M : Store} {acc : List G.D} {gp : Gp} {t : Tps} {e : Xp} {d : G.D} {x : V} {α β : Type} {R : Rl α β} {Q : β → Hp → Prop} {F : List G.D → Store → Res α} {Nx : Hp → Prop}
    (S1 : Sto Z.toGx H1 al1 M1) (hD : H1 D = none) (I : LcInv Z H1 al1 M1 D σ ρ k J H al M acc) (rx : Rep Z.K H al M d x)
    (p : Po Z.toGy R W σ H1 al1 M1 Q ((lcF Z n gp t e ρ d M).bind fun o M1 => match o with
      | some y => if acc.length < big then F (acc ++ [y]) M1 else .stuck
      | none => F acc M1))
    (hN : ∀ H' al' M' acc', LcInv Z H1 al1 M1 D σ ρ k J H' al' M' acc' → Po Z.toGy R W σ H1 al1 M1 Q (F acc' M') → Nx H') :
    tGp Z gp x (wipe σ (gslots gp)) H fun σ2 H2 => wipe σ2 (gslots gp) = wipe σ (gslots gp) ∧ tT Z.toGy WF (rnTs Z n t) σ2 H2 fun b H3 =>
      if b = true then tE Z.toGy WF (rnE Z n e) σ2 H3 fun y H4 => ∃ acc, H4 D = some (.lst acc) ∧ acc.length < sizeLine ∧ Nx (upd H4 D (.lst (acc ++ [y]))) else Nx H3 := by
  unfold lcF at p
  split at p
  · rename_i ρ' eb
    refine ⟨al, wipeR ρ (gslots gp), M, d, ρ', I.S, wipe_env I.E _, rx, eb, fun σ2 E2 hw => ⟨hw.trans wipe_wipe, al, ρ', M, I.S, E2, ?_⟩⟩
    cases q : rnTs Z n t ρ' M with
    | stuck => rw [q] at p; exact p.elim
    | err c fs M' => rw [q] at p; exact p.elim
    | ok b M2 =>
      rw [q] at p
      intro al2 H2 v s2 S2 ev
      cases ev
      have S' := I.S
      have hDpv : al.pv D := by rw [I.u.pv]; exact .inr rfl
      obtain ⟨vacc, hv, hr⟩ := I.acc
      cases b with
      | false =>
        rw [if_neg (by simp)]
        exact hN _ al2 M2 acc ⟨S2, I.E.mono S' s2, I.u.step hD s2, I.it.mono S' s2, vacc, (s2.pvk D hDpv).trans hv, Reps.mono S' s2 _ _ hr⟩ p
      | true =>
        rw [if_pos rfl]
        refine ⟨al2, ρ', M2, S2, E2.mono S' s2, ?_⟩
        simp only [noerr_ok, bind_ok] at p
        cases q3 : rnE Z n e ρ' M2 with
        | stuck => rw [q3] at p; exact p.elim
        | err c fs M' => rw [q3] at p; exact p.elim
        | ok y M3 =>
          rw [q3] at p
          simp only [noerr_ok, bind_ok] at p
          split at p
          · rename_i hlt
            intro al3 H3 w s3 S3 rw3
            have s := s2.trans s3
            have hd3 : H3 D = some (.lst vacc) := (s.pvk D hDpv).trans hv
            have hr3 := Reps.mono S' s _ _ hr
            have hDpv3 : al3.pv D := by rw [s.pv]; exact hDpv
            have so := S3.soft (D := D) (.inr hDpv3)
            refine ⟨vacc, hd3, by rw [hr.length]; exact hlt, hN _ al3 M3 (acc ++ [y]) ⟨S3.updp hDpv3, (I.E.mono S' s).updp so, (I.u.step hD s).updp S1 hD, (I.it.mono S' s).updp so, _, upd_same, ?_⟩ p⟩
            exact Reps.updp so _ _ (hr3.append (.cons rw3 .nil))
          · exact p.elim
  · exact p.elim
theorem lc_end {H1 : Hp} {al1 : Am} {M1 : Store} {D : Addr} {σ : L2.St} {ρ : Rho} {k : Wk} {J : It} {H : Hp} {al : Am} {M : Store} {acc : List G.D} {hot : Bool} {Q : VK}
    (S1 : Sto Z.toGx H1 al1 M1) (hD : H1 D = none) (I : LcInv Z H1 al1 M1 D σ ρ k J H al M acc) (p : Po Z.toGy (rE Z.toGy) W σ H1 al1 M1 Q (newL hot acc M)) : Q (.ref D) H := by
  obtain ⟨vacc, hv, hr⟩ := I.acc
  have hpv : ∀ a, al1.pv a → al.pv a := fun a h => by rw [I.u.pv]; exact .inl h
  have hDpv : al.pv D := by rw [I.u.pv]; exact .inr rfl
  have hDn : ¬ al1.pv D := fun h => by obtain ⟨vs, e⟩ := S1.pvl D h; rw [hD] at e; cases e
  have pub := I.u.pub
  cases hot with
  | false =>
    refine p ⟨al.ad, al1.pv⟩ H (.ref D) pub (I.S.pub hpv) ?_
    show Rep _ _ _ _ _ _
    rw [Rep]
    refine ⟨D, vacc, rfl, hv, ?_, Reps.reh ⟨⟨[], by simp⟩, fun a => pub_hot hpv⟩ _ _ hr⟩
    rintro (⟨m, hl, e⟩ | h)
    · exact I.S.pvd m D hl e hDpv
    · exact hDn h
  | true =>
    have rh : Reh al M ⟨al.ad ++ [D], al1.pv⟩ (M ++ [.lst acc]) := open_reh I.S.len hpv hDpv
    refine p ⟨al.ad ++ [D], al1.pv⟩ H (.ref D) ?_ (I.S.opn hpv hDpv hDn ⟨vacc, hv, Reps.reh rh _ _ hr⟩) ?_
    · refine ⟨?_, rfl, pub.pvk, pub.keep, pub.dom, fun m hm hl => pub.alive m hm ((live_app ?_).mp hl), fun m a hm e => ?_⟩
      · obtain ⟨more, e⟩ := pub.pre
        exact ⟨more ++ [D], by show al.ad ++ [D] = _; rw [show al.ad = _ from e, List.append_assoc]⟩
      · rw [← I.S.len]
        obtain ⟨more, e⟩ := pub.pre
        rw [show al.ad = _ from e, List.length_append]; omega
      · rcases add_get (al := al) (p := D) e with ⟨_, e1⟩ | ⟨_, rfl⟩
        · exact pub.new m a hm e1
        · exact hD
    · show Rep _ _ _ _ _ _
      rw [Rep]
      refine ⟨D, rfl, ?_⟩
      show (al.ad ++ [D])[M.length]? = _
      rw [← I.S.len]; simp
theorem lc_sem {c : Ck} {hot : Bool} {gp : Gp} {it : Ip} {t : Tps} {e : Xp} {σ : L2.St} {H : Hp} {Q : VK} (h : tE Z.toGy W (rnE Z n (.lc hot gp it t e)) σ H Q) :
    tLc (tI Z W (rnI Z n it)) (tGp Z gp) (tT Z.toGy WF (rnTs Z n t)) (tE Z.toGy WF (rnE Z n e)) ((ownOf c gp).map (·.2)) σ H Q := by
  have hvs : (ownOf c gp).map (·.2) = gslots gp := by unfold ownOf; rw [List.map_map]; exact (List.map_congr_left fun _ _ => rfl).trans (List.map_id _)
  rw [hvs]
  unfold rnE at h; simp only [runE] at h
  obtain ⟨al, ρ, M, S, E, p⟩ := h
  refine ⟨al, ρ, M, S, E, (Po.bind (R := rI Z) p).mono ?_⟩
  rintro J H1 ⟨al1, M1, k, s1, S1, rk, p1⟩ D hD
  have E1 := E.mono S s1
  have I0 : LcInv Z H1 al1 M1 D σ ρ k J (upd H1 D (.lst [])) (al1.pr D) M1 [] := ⟨S1.start hD, (E1.pr hD).updp (soft_new hD), Stu.start S1 hD, (rk.pr hD).updp (soft_new hD), [], upd_same, .nil⟩
  cases k with
  | items xs =>
    refine ⟨fun i m H => ∃ al M acc, LcInv Z H1 al1 M1 D σ ρ (.items xs) J H al M acc ∧ m = xs.length - i ∧ Po Z.toGy (rE Z.toGy) W σ H1 al1 M1 Q ((lcA (lcF Z n gp t e ρ) (xs.drop i) acc M).bind fun ys M2 => newL hot ys M2),
      ⟨xs.length, al1.pr D, M1, [], I0, rfl, by rw [List.drop_zero]; exact p1⟩, ?_⟩
    rintro i m H ⟨al, M, acc, I, rfl, p⟩
    by_cases hlt : i < xs.length
    · rw [List.drop_eq_getElem_cons hlt, lcA] at p
      obtain ⟨h1, h2⟩ := rI_go I.S I.it (i := i) (d := xs[i]) (by simp [hlt])
      refine .inr ⟨h1, fun H' => ∃ al M acc, LcInv Z H1 al1 M1 D σ ρ (.items xs) J H' al M acc ∧ Po Z.toGy (rE Z.toGy) W σ H1 al1 M1 Q ((lcA (lcF Z n gp t e ρ) (xs.drop (i + 1)) acc M).bind fun ys M2 => newL hot ys M2), ?_, ?_⟩
      · rintro H' ⟨al', M', acc', I', p'⟩
        exact ⟨xs.length - (i + 1), by omega, al', M', acc', I', rfl, p'⟩
      · intro x H' y
        obtain ⟨rfl, rx⟩ := h2 x H' y
        refine lc_turn (F := fun acc M => (lcA (lcF Z n gp t e ρ) (xs.drop (i + 1)) acc M).bind fun ys M2 => newL hot ys M2) S1 hD I rx ?_ fun H' al' M' acc' I' p' => ⟨al', M', acc', I', p'⟩
        revert p
        cases lcF Z n gp t e ρ xs[i] M with
        | ok o M' => 
          cases o with
          | none => exact id
          | some y =>
            simp only [bind_ok]
            by_cases hz : acc.length < big
            · simp only [if_pos hz]; exact id
            · simp only [if_neg hz]; exact id
        | err c fs M' => exact id
        | stuck => exact id
    · have hd : xs.drop i = [] := List.drop_eq_nil_of_le (Nat.le_of_not_lt hlt)
      rw [hd, lcA] at p
      exact .inl ⟨rI_stop I.S I.it (Nat.le_of_not_lt hlt), lc_end S1 hD I p⟩
  | hot a =>
    refine ⟨fun i m H => ∃ al M acc, LcInv Z H1 al1 M1 D σ ρ (.hot a) J H al M acc ∧ Po Z.toGy (rE Z.toGy) W σ H1 al1 M1 Q ((lcH a (lcF Z n gp t e ρ) m i acc M).bind fun ys M2 => newL hot ys M2),
      ⟨Z.wf, al1.pr D, M1, [], I0, p1⟩, ?_⟩
    rintro i m H ⟨al, M, acc, I, p⟩
    cases m with
    | zero => exact p.elim
    | succ m =>
      rw [lcH] at p
      split at p
      · rename_i xs e1
        obtain ⟨h0, h00⟩ := rI_hot I.S I.it e1
        split at p
        · rename_i e2
          exact .inl ⟨h0 i (List.getElem?_eq_none_iff.mp e2), lc_end S1 hD I p⟩
        · rename_i d e2
          obtain ⟨h1, h2⟩ := h00 i d e2
          refine .inr ⟨h1, fun H' => ∃ al M acc, LcInv Z H1 al1 M1 D σ ρ (.hot a) J H' al M acc ∧ Po Z.toGy (rE Z.toGy) W σ H1 al1 M1 Q ((lcH a (lcF Z n gp t e ρ) m (i + 1) acc M).bind fun ys M2 => newL hot ys M2), ?_, ?_⟩
          · rintro H' ⟨al', M', acc', I', p'⟩
            exact ⟨m, Nat.lt_succ_self m, al', M', acc', I', p'⟩
          · intro x H' y
            obtain ⟨rfl, rx⟩ := h2 x H' y
            refine lc_turn (F := fun acc M => (lcH a (lcF Z n gp t e ρ) m (i + 1) acc M).bind fun ys M2 => newL hot ys M2) S1 hD I rx ?_ fun H' al' M' acc' I' p' => ⟨al', M', acc', I', p'⟩
            revert p
            cases lcF Z n gp t e ρ d M with
            | ok o M' => 
              cases o with
              | none => exact id
              | some y =>
                simp only [bind_ok]
                by_cases hz : acc.length < big
                · simp only [if_pos hz]; exact id
                · simp only [if_neg hz]; exact id
            | err c fs M' => exact id
            | stuck => exact id
      · exact p.elim
theorem z_lc {cx : Cx} {c : Ck} {hot : Bool} {gp : Gp} {it : Ip} {t : Tps} {e : Xp} {elt tg iter : Expr} {ifs : List Expr} {scope : Scope} {pos : Pos} (g : Good Z c cx n) (hi : PI cx tg iter (tI Z W (rnI Z n it))) (hb : blkC cx.N cx.env.scope scope (ownOf c gp) = true)
    (hg : ∀ (s : Shared) (H : Hp) (C : Addr) (cl : List (Str × Addr)) (fp : List Addr), PG (cx.blk s H scope (compEnvC scope cl C cx.env) fp) tg (tGp Z gp))
    (ht : ∀ (s : Shared) (H : Hp) (C : Addr) (cl : List (Str × Addr)) (fp : List Addr), PTs (cx.blk s H scope (compEnvC scope cl C cx.env) fp) ifs (tT Z.toGy WF (rnTs Z n t)))
    (he : ∀ (s : Shared) (H : Hp) (C : Addr) (cl : List (Str × Addr)) (fp : List Addr), PE (cx.blk s H scope (compEnvC scope cl C cx.env) fp) elt (tE Z.toGy WF (rnE Z n e)))
    (hs : ∀ x, foldedSetIterable iter cx.env x = pure x) :
    PEz Z n cx W (.lc hot gp it t e) (.ListComp elt [⟨tg, iter, ifs, 0⟩] scope pos) :=
  (pe_lc (pos := pos) g.calm (by rw [g.N]; exact g.nd) hi (blkOk_by hb) hg ht he hs).imp fun σ H Q h => lc_sem h
end
end G

/-! GMut -/
set_option maxRecDepth 100000
set_option maxHeartbeats 4000000
namespace G
open PySem PySem.Spec PyProof.Rows L2

theorem takes_F {cx : Cx} (h : ∀ W : WX, (∀ c d σ H, ¬ W c d σ H) → Takes cx W) : Takes cx WF := h _ fun _ _ _ _ q => q
theorem takesF {cx : Cx} : Takes cx WF := fun u s' ⟨a, B, sI, pins, σ, H, cls, d, e, I, nb, up, sky, na, os, ag, w⟩ => False.elim w
section
variable {Z : Gz} {n : Nat}
theorem Lnk.of {cx cx' : Cx} (l : Lnk Z cx n) (h1 : cx'.K = cx.K) (h2 : cx'.prog = cx.prog) (h3 : cx'.w = cx.w) (h4 : cx'.mg = cx.mg) (h5 : cx'.base = cx.base) : Lnk Z cx' n := by
  cases cx
  cases cx'
  dsimp only at h1 h2 h3 h4 h5
  subst h1 h2 h3 h4 h5
  exact ⟨l.K, fun f k e => ⟨(l.fn f k e).ex, (l.fn f k e).kp⟩, l.fnm, l.blt, l.clm, l.cls, l.mks, l.meth, fun k e h => ⟨(l.ers k e h).ex, (l.ers k e h).fl, (l.ers k e h).ne, (l.ers k e h).few⟩, l.erm, l.exm, l.xfc, l.noat, l.nms⟩
theorem Good.blk {c : Ck} {cx : Cx} (g : Good Z c cx n) (s : Shared) (H : Hp) (scope : Scope) (C : Addr) (cl : List (Str × Addr)) (fp : List Addr) : Good Z (c.blk scope) (cx.blk s H scope (compEnvC scope cl C cx.env) fp) n :=
  ⟨g.lnk.of rfl rfl rfl rfl rfl, g.P, by
    show relS scope cx.env.scope = relS scope c.sc
    rw [g.sc], g.N, g.nd, rfl, g.calm, g.room⟩
theorem z_var {cx : Cx} {c : Ck} {W : WX} {i : Nat} {x : Str} {pos : Pos} (g : Good Z c cx n) (h : c.var i x = true) : PEz Z n cx W (.v i) (.Name x pos) := by
  unfold Ck.var at h
  simp only [Bool.and_eq_true, decide_eq_true_eq, Bool.not_eq_true'] at h
  obtain ⟨⟨⟨h1, h2⟩, h3⟩, h4⟩ := h
  refine (pe_var (by rw [g.N]; exact h1) (g.vis h2) h3 h4).imp fun σ H Q hh => ?_
  unfold rnE at hh; simp only [runE] at hh
  obtain ⟨al, ρ, M, S, E, p⟩ := hh
  dsimp only at p
  split at p
  · rename_i d e
    obtain ⟨v, e1, r⟩ := E.at_ i d e
    exact ⟨v, e1, p.ok S r⟩
  · exact p.elim
theorem z_pts0 {cx : Cx} {W : WX} : PTs cx [] (tT Z.toGy W (rnTs Z n .nil)) := ⟨fun pins s σ H Q I h => pts_nil.run pins s σ H Q I (by
  unfold rnTs at h; simp only [runTs] at h
  obtain ⟨al, ρ, M, S, E, p⟩ := h
  exact p.ok S rfl)⟩
theorem z_pts1 {cx : Cx} {W : WX} {t : Tp} {e : Expr} (h : PTz Z n cx W t e) : PTs cx [e] (tT Z.toGy W (rnTs Z n (.cons t .nil))) := ⟨fun pins s σ H Q I hh => (pts_one h).run pins s σ H Q I (by
  unfold rnTs at hh; simp only [runTs] at hh
  exact hh)⟩
theorem z_tand {cx : Cx} {W : WX} {ts : Tps} {e : Expr} (h : PW cx e (tT Z.toGy W (rnTs Z n ts))) : PTz Z n cx W (.tand ts) e := h.pt.imp fun σ H Q hh => by
  unfold rnT at hh; simp only [runT] at hh; exact hh
theorem z_tor {cx : Cx} {W : WX} {ts : Tps} {e : Expr} (h : PW cx e (tT Z.toGy W (rnTo Z n ts))) : PTz Z n cx W (.tor ts) e := h.pt.imp fun σ H Q hh => by
  unfold rnT at hh; simp only [runT] at hh; exact hh
theorem chkA_form {c : Ck} {as : Xps} {es : List Expr} (h : chkA c as es = true) : (as = .nil ∧ es = []) ∨ ∃ e es', es = e :: es' := by
  cases as with
  | nil => cases es with
    | nil => exact .inl ⟨rfl, rfl⟩
    | cons _ _ => simp [chkA] at h
  | cons a r => cases es with
    | nil => simp [chkA] at h
    | cons e es => exact .inr ⟨e, es, rfl⟩

theorem sndI_fold {env : Env} (x : Ip) (c : Ck) (e : Expr) (h : chkI c x e = true) (u : Value) : foldedSetIterable e env u = pure u := by
  refine folded_of ?_ u
  cases x with
  | val a => rw [chkI] at h; exact plainX_set (chk_plain _ _ h)
  | rng1 a => 
    unfold chkI at h; split at h
    · rfl
    · cases h
  | rng2 a b => 
    unfold chkI at h; split at h
    · rfl
    · cases h
mutual
theorem sndE : ∀ (x : Xp) (c : Ck) (cx : Cx) (W : WX) (e : Expr), Good Z c cx n → Takes cx W → chkE c x e = true → PEz Z n cx W x e
  | .non, c, cx, W, e, g, tk, h => by
    unfold chkE at h; split at h
    · exact z_c pe_non (fun _ _ _ => non_rep) fun _ _ => rfl
    · cases h
  | .bl b, c, cx, W, e, g, tk, h => by
    unfold chkE at h; split at h
    · rw [beq_iff_eq] at h; subst h
      exact z_c pe_bl (fun _ _ _ => bl_rep) fun _ _ => rfl
    · cases h
  | .int i, c, cx, W, e, g, tk, h => by
    unfold chkE at h; split at h
    · rw [decide_eq_true_eq] at h; subst h
      exact z_c pe_int (fun _ _ _ => int_rep) fun _ _ => rfl
    · cases h
  | .str x, c, cx, W, e, g, tk, h => by
    unfold chkE at h; split at h
    · rw [decide_eq_true_eq] at h; subst h
      exact z_c pe_str (fun _ _ _ => str_rep) fun _ _ => rfl
    · cases h
  | .v i, c, cx, W, e, g, tk, h => by
    unfold chkE at h; split at h
    · exact z_var g h
    · cases h
  | .bin o a b, c, cx, W, e, g, tk, h => by
    unfold chkE at h; split at h
    · simp only [Bool.and_eq_true, decide_eq_true_eq] at h
      obtain ⟨⟨rfl, h1⟩, h2⟩ := h
      exact z_bin g (sndE a c cx W _ g tk h1) (sndE b c cx W _ g tk h2)
    · cases h
  | .neg a, c, cx, W, e, g, tk, h => by
    unfold chkE at h; split at h
    · exact z_neg (sndE a c cx W _ g tk h)
    · cases h
  | .notV a, c, cx, W, e, g, tk, h => by
    unfold chkE at h; split at h
    · exact z_notV (sndE a c cx W _ g tk h)
    · cases h
  | .cmp o a b, c, cx, W, e, g, tk, h => by
    unfold chkE at h; split at h
    · simp only [Bool.and_eq_true, decide_eq_true_eq] at h
      obtain ⟨⟨rfl, h1⟩, h2⟩ := h
      exact z_cmp g (plainX_set (chk_plain _ _ h2)) (sndE a c cx W _ g tk h1) (sndE b c cx W _ g tk h2)
    · cases h
  | .chn o p a b d, c, cx, W, e, g, tk, h => by
    unfold chkE at h; split at h
    · simp only [Bool.and_eq_true, decide_eq_true_eq] at h
      obtain ⟨⟨⟨⟨rfl, rfl⟩, h1⟩, h2⟩, h3⟩ := h
      exact z_chn g (plainX_set (chk_plain _ _ h3)) (sndE a c cx W _ g tk h1) (sndE b c cx W _ g tk h2) (sndE d c cx W _ g tk h3)
    · cases h
  | .isN a, c, cx, W, e, g, tk, h => by
    unfold chkE at h; split at h
    · exact z_isN (sndE a c cx W _ g tk h)
    · cases h
  | .notN a, c, cx, W, e, g, tk, h => by
    unfold chkE at h; split at h
    · exact z_notN (sndE a c cx W _ g tk h)
    · cases h
  | .andV as, c, cx, W, e, g, tk, h => by
    unfold chkE at h; split at h
    · exact sndAnd as c cx W _ _ g tk h
    · cases h
  | .orV as, c, cx, W, e, g, tk, h => by
    unfold chkE at h; split at h
    · exact sndOr as c cx W _ _ g tk h
    · cases h
  | .ife t a b, c, cx, W, e, g, tk, h => by
    unfold chkE at h; split at h
    · simp only [Bool.and_eq_true] at h
      obtain ⟨⟨h1, h2⟩, h3⟩ := h
      exact z_ife (sndT t c cx W _ g tk h1) (sndE a c cx W _ g tk h2) (sndE b c cx W _ g tk h3)
    · cases h
  | .call f as, c, cx, W, e, g, tk, h => by
    unfold chkE at h; split at h
    · simp only [Bool.and_eq_true] at h
      obtain ⟨⟨h1, h2⟩, h3⟩ := h
      split at h1
      · rename_i k e1
        rw [Bool.and_eq_true, decide_eq_true_eq] at h1
        exact z_call g tk (by rw [← g.P]; exact e1) h1.1 h1.2 h2 (chkA_star _ _ h3) (chkA_form h3) (sndA as c cx W _ g tk h3)
      · cases h1
    · cases h
  | .mk f as, c, cx, W, e, g, tk, h => by
    unfold chkE at h; split at h
    · simp only [Bool.and_eq_true] at h
      obtain ⟨⟨h1, h2⟩, h3⟩ := h
      split at h1
      · rename_i k e1
        rw [decide_eq_true_eq] at h1
        exact z_mk g tk (by rw [← g.P]; exact e1) h1 h2 (chkA_star _ _ h3) (chkA_form h3) (sndA as c cx W _ g tk h3)
      · cases h1
    · cases h
  | .meth o m as, c, cx, W, e, g, tk, h => by
    unfold chkE at h; split at h
    · simp only [Bool.and_eq_true, decide_eq_true_eq] at h
      obtain ⟨⟨⟨⟨⟨h1, h2⟩, h3⟩, h4⟩, h5⟩, h6⟩ := h
      exact z_meth g tk h1 h2 h3 h4 (chkA_star _ _ h6) (chkA_form h6) (sndE o c cx W _ g tk h5) (sndA as c cx W _ g tk h6)
    · cases h
  | .bi f as, c, cx, W, e, g, tk, h => by
    unfold chkE at h; split at h
    · simp only [Bool.and_eq_true, decide_eq_true_eq] at h
      obtain ⟨⟨⟨h1, h2⟩, h3⟩, h4⟩ := h
      rcases chkA_form h4 with ⟨rfl, rfl⟩ | ⟨e, es', rfl⟩
      · cases h3
      · exact z_bi g h1 h2 (chkA_star _ _ h4) (sndA as c cx W _ g tk h4)
    · cases h
  | .bm f o as, c, cx, W, e, g, tk, h => by
    unfold chkE at h; split at h
    · simp only [Bool.and_eq_true, decide_eq_true_eq, beq_iff_eq] at h
      obtain ⟨⟨⟨⟨⟨⟨h1, h2⟩, h3⟩, h4⟩, h7⟩, h5⟩, h6⟩ := h
      refine z_bm g h1 h2 h3 (by simpa using h4) (chkA_star _ _ h6) ?_ (sndE o c cx W _ g tk h5) (sndA as c cx W _ g tk h6)
      rcases chkA_form h6 with ⟨rfl, rfl⟩ | ⟨e, es', rfl⟩
      · exact .inl ⟨rfl, rfl, by simpa using h7⟩
      · exact .inr ⟨e, es', rfl, by simpa using h7⟩
    · cases h
  | .isi a t, c, cx, W, e, g, tk, h => by
    unfold chkE at h; split at h
    · simp only [Bool.and_eq_true, decide_eq_true_eq] at h
      obtain ⟨⟨⟨⟨h1, h2⟩, h3⟩, h4⟩, h5⟩ := h
      exact z_isi g h1 h2 h3 h4 (plainX_star (chk_plain _ _ h5)) (sndE a c cx W _ g tk h5)
    · cases h
  | .fld o f, c, cx, W, e, g, tk, h => by
    unfold chkE at h; split at h
    · simp only [Bool.and_eq_true] at h
      obtain ⟨⟨h1, h2⟩, h3⟩ := h
      exact z_fld g h1 h2 (sndE o c cx W _ g tk h3)
    · cases h
  | .ix o i, c, cx, W, e, g, tk, h => by
    unfold chkE at h; split at h
    · simp only [Bool.and_eq_true] at h
      exact z_ix g (plainX_slice (chk_plain _ _ h.2)) (sndE o c cx W _ g tk h.1) (sndE i c cx W _ g tk h.2)
    · cases h
  | .sl o lo hi, c, cx, W, e, g, tk, h => by
    unfold chkE at h; split at h
    · simp only [Bool.and_eq_true] at h
      exact z_sl g (sndE o c cx W _ g tk h.1.1) (sndO lo c cx W _ g tk h.1.2) (sndO hi c cx W _ g tk h.2)
    · cases h
  | .tup as, c, cx, W, e, g, tk, h => by
    unfold chkE at h; split at h
    · exact z_tup (sndA as c cx W _ g tk h)
    · cases h
  | .lst hot as, c, cx, W, e, g, tk, h => by
    unfold chkE at h; split at h
    · exact z_lst (sndA as c cx W _ g tk h)
    · cases h
  | .lc hot gp it t a, c, cx, W, e, g, tk, h => by
    unfold chkE at h; split at h
    · simp only [Bool.and_eq_true] at h
      obtain ⟨⟨⟨⟨h1, h2⟩, h3⟩, h4⟩, h5⟩ := h
      exact z_lc g (sndI it c cx W _ _ g tk h1) (by rw [g.N, g.sc]; exact h2) (fun s H C cl fp => z_tgt (g.blk s H _ C cl fp) h3)
        (fun s H C cl fp => sndIfs t _ _ WF _ (g.blk s H _ C cl fp) takesF h4) (fun s H C cl fp => sndE a _ _ WF _ (g.blk s H _ C cl fp) takesF h5) (sndI_fold it c _ h1)
    · cases h
  | .frz a, c, cx, W, e, g, tk, h => by
    rw [chkE] at h
    exact z_frz (sndE a c cx W _ g tk h)
  | .lrg hot a, c, cx, W, e, g, tk, h => by
    unfold chkE at h; split at h
    · simp only [Bool.and_eq_true, decide_eq_true_eq] at h
      obtain ⟨⟨⟨⟨h1, h2⟩, h3⟩, h4⟩, h5⟩ := h
      exact z_lrg g h1 h2 h3 h4 (plainX_star (chk_plain _ _ h5)) (sndE a c cx W _ g tk h5)
    · cases h
theorem sndA : ∀ (x : Xps) (c : Ck) (cx : Cx) (W : WX) (es : List Expr), Good Z c cx n → Takes cx W → chkA c x es = true → PAz Z n cx W x es
  | .nil, c, cx, W, es, g, tk, h => by
    cases es with
    | nil => exact z_nilA
    | cons _ _ => simp [chkA] at h
  | .cons a r, c, cx, W, es, g, tk, h => by
    cases es with
    | nil => simp [chkA] at h
    | cons e es =>
      rw [chkA, Bool.and_eq_true] at h
      exact z_consA (plainX_star (chk_plain _ _ h.1)) (sndE a c cx W _ g tk h.1) (sndA r c cx W _ g tk h.2)
theorem sndAnd : ∀ (x : Xps) (c : Ck) (cx : Cx) (W : WX) (es : List Expr) (pos : Pos), Good Z c cx n → Takes cx W → chkA c x es = true → PEz Z n cx W (.andV x) (.BoolOp .And es pos)
  | .nil, c, cx, W, es, pos, g, tk, h => ⟨fun pins s σ H Q I hh => by
    unfold rnE at hh; simp only [runE, runAnd] at hh
    obtain ⟨al, ρ, M, S, E, p⟩ := hh
    exact p.elim⟩
  | .cons a .nil, c, cx, W, es, pos, g, tk, h => by
    cases es with
    | nil => simp [chkA] at h
    | cons e es =>
      rw [chkA, Bool.and_eq_true] at h
      cases es with
      | nil => exact z_and1 (sndE a c cx W _ g tk h.1)
      | cons _ _ => simp [chkA] at h
  | .cons a (.cons b r), c, cx, W, es, pos, g, tk, h => by
    cases es with
    | nil => simp [chkA] at h
    | cons e es =>
      rw [chkA, Bool.and_eq_true] at h
      cases es with
      | nil => simp [chkA] at h
      | cons e' es => exact z_and2 (sndE a c cx W _ g tk h.1) (sndAnd (.cons b r) c cx W _ _ g tk h.2)
theorem sndOr : ∀ (x : Xps) (c : Ck) (cx : Cx) (W : WX) (es : List Expr) (pos : Pos), Good Z c cx n → Takes cx W → chkA c x es = true → PEz Z n cx W (.orV x) (.BoolOp .Or es pos)
  | .nil, c, cx, W, es, pos, g, tk, h => ⟨fun pins s σ H Q I hh => by
    unfold rnE at hh; simp only [runE, runOr] at hh
    obtain ⟨al, ρ, M, S, E, p⟩ := hh
    exact p.elim⟩
  | .cons a .nil, c, cx, W, es, pos, g, tk, h => by
    cases es with
    | nil => simp [chkA] at h
    | cons e es =>
      rw [chkA, Bool.and_eq_true] at h
      cases es with
      | nil => exact z_or1 (sndE a c cx W _ g tk h.1)
      | cons _ _ => simp [chkA] at h
  | .cons a (.cons b r), c, cx, W, es, pos, g, tk, h => by
    cases es with
    | nil => simp [chkA] at h
    | cons e es =>
      rw [chkA, Bool.and_eq_true] at h
      cases es with
      | nil => simp [chkA] at h
      | cons e' es => exact z_or2 (sndE a c cx W _ g tk h.1) (sndOr (.cons b r) c cx W _ _ g tk h.2)
theorem sndO : ∀ (x : Op) (c : Ck) (cx : Cx) (W : WX) (e : Option Expr), Good Z c cx n → Takes cx W → chkO c x e = true → PO cx e (tO Z.toGy W (rnO Z n x))
  | .no, c, cx, W, e, g, tk, h => by
    cases e with
    | none => exact z_no
    | some _ => simp [chkO] at h
  | .so a, c, cx, W, e, g, tk, h => by
    cases e with
    | none => simp [chkO] at h
    | some e => exact z_so (sndE a c cx W _ g tk (by rw [chkO] at h; exact h))
theorem sndT : ∀ (x : Tp) (c : Ck) (cx : Cx) (W : WX) (e : Expr), Good Z c cx n → Takes cx W → chkT c x e = true → PTz Z n cx W x e
  | .val a, c, cx, W, e, g, tk, h => by
    rw [chkT, Bool.and_eq_true] at h
    exact z_val g h.1 (sndE a c cx W _ g tk h.2)
  | .cmp o a b, c, cx, W, e, g, tk, h => by
    unfold chkT at h; split at h
    · simp only [Bool.and_eq_true, decide_eq_true_eq] at h
      obtain ⟨⟨rfl, h1⟩, h2⟩ := h
      exact z_tcmp g (plainX_set (chk_plain _ _ h2)) (sndE a c cx W _ g tk h1) (sndE b c cx W _ g tk h2)
    · cases h
  | .chn o p a b d, c, cx, W, e, g, tk, h => by
    unfold chkT at h; split at h
    · simp only [Bool.and_eq_true, decide_eq_true_eq] at h
      obtain ⟨⟨⟨⟨rfl, rfl⟩, h1⟩, h2⟩, h3⟩ := h
      exact z_tchn g (plainX_set (chk_plain _ _ h3)) (sndE a c cx W _ g tk h1) (sndE b c cx W _ g tk h2) (sndE d c cx W _ g tk h3)
    · cases h
  | .isN a, c, cx, W, e, g, tk, h => by
    unfold chkT at h; split at h
    · exact z_tisN (sndE a c cx W _ g tk h)
    · cases h
  | .notN a, c, cx, W, e, g, tk, h => by
    unfold chkT at h; split at h
    · exact z_tnotN (sndE a c cx W _ g tk h)
    · cases h
  | .tnot t, c, cx, W, e, g, tk, h => by
    unfold chkT at h; split at h
    · exact z_tnot (sndT t c cx W _ g tk h)
    · cases h
  | .tand ts, c, cx, W, e, g, tk, h => by
    unfold chkT at h; split at h
    · exact z_tand (sndTs ts c cx W _ _ g tk h)
    · cases h
  | .tor ts, c, cx, W, e, g, tk, h => by
    unfold chkT at h; split at h
    · exact z_tor (sndTo ts c cx W _ _ g tk h)
    · cases h
theorem sndTs : ∀ (x : Tps) (c : Ck) (cx : Cx) (W : WX) (es : List Expr) (pos : Pos), Good Z c cx n → Takes cx W → chkTs c x es = true → PW cx (.BoolOp .And es pos) (tT Z.toGy W (rnTs Z n x))
  | .nil, c, cx, W, es, pos, g, tk, h => by simp [chkTs] at h
  | .cons a .nil, c, cx, W, es, pos, g, tk, h => by
    unfold chkTs at h; split at h
    · exact z_tand1 (sndT a c cx W _ g tk h)
    · cases h
  | .cons a (.cons b r), c, cx, W, es, pos, g, tk, h => by
    unfold chkTs at h; split at h
    · rw [Bool.and_eq_true] at h
      exact z_tand2 (sndT a c cx W _ g tk h.1) (sndTs (.cons b r) c cx W _ _ g tk h.2)
    · cases h
theorem sndTo : ∀ (x : Tps) (c : Ck) (cx : Cx) (W : WX) (es : List Expr) (pos : Pos), Good Z c cx n → Takes cx W → chkTs c x es = true → PW cx (.BoolOp .Or es pos) (tT Z.toGy W (rnTo Z n x))
  | .nil, c, cx, W, es, pos, g, tk, h => by simp [chkTs] at h
  | .cons a .nil, c, cx, W, es, pos, g, tk, h => by
    unfold chkTs at h; split at h
    · exact z_tor1 (sndT a c cx W _ g tk h)
    · cases h
  | .cons a (.cons b r), c, cx, W, es, pos, g, tk, h => by
    unfold chkTs at h; split at h
    · rw [Bool.and_eq_true] at h
      exact z_tor2 (sndT a c cx W _ g tk h.1) (sndTo (.cons b r) c cx W _ _ g tk h.2)
    · cases h
theorem sndIfs : ∀ (x : Tps) (c : Ck) (cx : Cx) (W : WX) (es : List Expr), Good Z c cx n → Takes cx W → chkIfs c x es = true → PTs cx es (tT Z.toGy W (rnTs Z n x))
  | .nil, c, cx, W, es, g, tk, h => by
    cases es with
    | nil => exact z_pts0
    | cons _ _ => simp [chkIfs] at h
  | .cons a .nil, c, cx, W, es, g, tk, h => by
    unfold chkIfs at h; split at h
    · exact z_pts1 (sndT a c cx W _ g tk h)
    · cases h
  | .cons a (.cons b r), c, cx, W, es, g, tk, h => by simp [chkIfs] at h
theorem sndI : ∀ (x : Ip) (c : Ck) (cx : Cx) (W : WX) (tg e : Expr), Good Z c cx n → Takes cx W → chkI c x e = true → PI cx tg e (tI Z W (rnI Z n x))
  | .val a, c, cx, W, tg, e, g, tk, h => by
    rw [chkI] at h
    exact z_ival g (sndE a c cx W _ g tk h)
  | .rng1 a, c, cx, W, tg, e, g, tk, h => by
    unfold chkI at h; split at h
    · simp only [Bool.and_eq_true, decide_eq_true_eq] at h
      obtain ⟨⟨h1, h2⟩, h3⟩ := h
      exact z_rng1 g h1 h2 (plainX_star (chk_plain _ _ h3)) (sndE a c cx W _ g tk h3)
    · cases h
  | .rng2 a b, c, cx, W, tg, e, g, tk, h => by
    unfold chkI at h; split at h
    · simp only [Bool.and_eq_true, decide_eq_true_eq] at h
      obtain ⟨⟨⟨h1, h2⟩, h3⟩, h4⟩ := h
      exact z_rng2 g h1 h2 (plainX_star (chk_plain _ _ h3)) (plainX_star (chk_plain _ _ h4)) (sndE a c cx W _ g tk h3) (sndE b c cx W _ g tk h4)
    · cases h
end
end
end G

/-! GStm -/
set_option maxRecDepth 100000
set_option maxHeartbeats 4000000
namespace G
open PySem PySem.Spec PyProof.Rows L2

/-- what is wanted of a statement's end -/
def PoS (X : Gy) (W : WX) (D : Ends) (H : Hp) (al : Am) (M : Store) : Out → Prop
  | some (.nx ρ, M') => ∀ al' H' σ', Stp H al M H' al' M' → Sto X.toGx H' al' M' → Envr X.K H' al' M' σ' ρ → D.nx σ' H'
  | some (.bk ρ, M') => ∀ al' H' σ', Stp H al M H' al' M' → Sto X.toGx H' al' M' → Envr X.K H' al' M' σ' ρ → D.bk σ' H'
  | some (.ct ρ, M') => ∀ al' H' σ', Stp H al M H' al' M' → Sto X.toGx H' al' M' → Envr X.K H' al' M' σ' ρ → D.ct σ' H'
  | some (.rt d, M') => ∀ al' H' v, Stp H al M H' al' M' → Sto X.toGx H' al' M' → Rep X.K H' al' M' d v → D.rt v H'
  | some (.er c fs ρ, M') => ∀ al' H' σ' cls dd, Stp H al M H' al' M' → Sto X.toGx H' al' M' → Envr X.K H' al' M' σ' ρ → Exr X H' al' M' c fs cls dd → W cls dd σ' H'
  | none => False
def tS (X : Gy) (W : WX) (f : Rho → Store → Out) : TS := fun D σ H => ∃ al ρ M, Sto X.toGx H al M ∧ Envr X.K H al M σ ρ ∧ PoS X W D H al M (f ρ M)
section
variable {X : Gy} {W : WX} {D : Ends} {σ : L2.St} {ρ : Rho} {H H1 : Hp} {al al1 : Am} {M M1 : Store} {o : Out} {α β : Type} {R : Rl α β}
theorem PoS.step (p : PoS X W D H al M o) (s : Stp H al M H1 al1 M1) : PoS X W D H1 al1 M1 o := by
  match o, p with
  | some (.nx ρ, M'), p => exact fun al' H' σ' s' S E => p al' H' σ' (s.trans s') S E
  | some (.bk ρ, M'), p => exact fun al' H' σ' s' S E => p al' H' σ' (s.trans s') S E
  | some (.ct ρ, M'), p => exact fun al' H' σ' s' S E => p al' H' σ' (s.trans s') S E
  | some (.rt d, M'), p => exact fun al' H' v s' S E => p al' H' v (s.trans s') S E
  | some (.er c fs ρ, M'), p => exact fun al' H' σ' cls dd s' S E x => p al' H' σ' cls dd (s.trans s') S E x
theorem PoS.nxt (S : Sto X.toGx H al M) (E : Envr X.K H al M σ ρ) (p : PoS X W D H al M (some (.nx ρ, M))) : D.nx σ H := p al H σ Stp.refl S E
theorem PoS.ex {r : Res α} {f : α → Store → Out} (S : Sto X.toGx H al M) (E : Envr X.K H al M σ ρ) (p : PoS X W D H al M (withE r ρ f)) :
    Po X R W σ H al M (fun v H1 => ∃ al1 M1 a, Stp H al M H1 al1 M1 ∧ Sto X.toGx H1 al1 M1 ∧ Envr X.K H1 al1 M1 σ ρ ∧ R H1 al1 M1 a v ∧ PoS X W D H1 al1 M1 (f a M1)) r := by
  cases r with
  | ok a M' => exact fun al' H' v s S' r => ⟨al', M', a, s, S', E.mono S s, r, p.step s⟩
  | err c fs M' => exact fun al' H' cls dd s S' x => p al' H' σ cls dd s S' (E.mono S s) x
  | stuck => exact p
/-- a statement that begins with an expression -/
theorem tS_ex {f : Rho → Store → Res α} {g : Rho → α → Store → Out} (h : tS X W (fun ρ M => withE (f ρ M) ρ fun a M1 => g ρ a M1) D σ H) :
    tG X R W f σ H (fun v H1 => ∃ al ρ M a, Sto X.toGx H1 al M ∧ Envr X.K H1 al M σ ρ ∧ R H1 al M a v ∧ PoS X W D H1 al M (g ρ a M)) := by
  obtain ⟨al, ρ, M, S, E, p⟩ := h
  refine ⟨al, ρ, M, S, E, (PoS.ex S E p).mono ?_⟩
  rintro v H1 ⟨al1, M1, a, s, S1, E1, r, p1⟩
  exact ⟨al1, ρ, M1, a, S1, E1, r, p1⟩
end

section
variable {Z : Gz} {n : Nat} {cx : Cx} {c : Ck} {W : WX} {pos : Pos}
noncomputable abbrev rnS (Z : Gz) (n : Nat) (x : Sm) : Rho → Store → Out := fun ρ M => runS Z.P Z.wf (callF Z.P Z.wf n) x ρ M
noncomputable abbrev rnSs (Z : Gz) (n : Nat) (x : Sms) : Rho → Store → Out := fun ρ M => runSs Z.P Z.wf (callF Z.P Z.wf n) x ρ M
abbrev PSz (Z : Gz) (n : Nat) (cx : Cx) (W : WX) (x : Sm) (s : Stmt) : Prop := PS cx s (tS Z.toGy W (rnS Z n x))
abbrev PSsz (Z : Gz) (n : Nat) (cx : Cx) (W : WX) (x : Sms) (s : List Stmt) : Prop := PSs cx s (tS Z.toGy W (rnSs Z n x))
end
end G
namespace L2
open PySem PySem.Spec PyProof.Rows
theorem PS.imp {cx : Cx} {e : Stmt} {t t' : TS} (h : PS cx e t) (i : ∀ D σ H, t' D σ H → t D σ H) : PS cx e t' := ⟨fun pins s σ H D I q => h.run pins s σ H D I (i D σ H q)⟩
theorem PSs.imp {cx : Cx} {e : List Stmt} {t t' : TS} (h : PSs cx e t) (i : ∀ D σ H, t' D σ H → t D σ H) : PSs cx e t' := ⟨fun pins s σ H D I q => h.run pins s σ H D I (i D σ H q)⟩
end L2
namespace G
open PySem PySem.Spec PyProof.Rows L2
def isName : Expr → Bool | .Name .. => true | _ => false
theorem sw_other {t v : Expr} {l : Nat} {env : Env} (h : isName t = false) : swapsWithSole [t] v l env = pure false := by
  show swapsWith v (some t) l env = pure false
  cases v <;> first | rfl | (cases t <;> first | rfl | cases h)
theorem sw_cell {v : Expr} {x : Str} {p : Pos} {l : Nat} {env : Env} (h : env.kindOf x ≠ some .local) : swapsWith v (some (.Name x p)) l env = pure false := by
  have hk : (env.kindOf x == some NameKind.local) = false := by
    cases q : env.kindOf x with
    | none => rfl
    | some k => cases k <;> first | rfl | exact absurd q h
  cases v <;> first
    | rfl
    | (unfold swapsWith; simp only [hk, Bool.and_false, Bool.false_and]; try rfl)
def isTup : Expr → Bool | .Tuple .. => true | .List .. => true | _ => false
theorem swapped_other {t e : Expr} {env : Env} (h : isTup t = false) : swappedStores [t] e env = pure none := by
  cases t <;> first | (cases e <;> rfl) | cases h
section
variable {Z : Gz} {n : Nat} {cx : Cx} {c : Ck} {W : WX} {pos : Pos}
theorem z_nev {s : Stmt} : PSz Z n cx W .nev s := ps_never.imp fun D σ H h => by
  obtain ⟨al, ρ, M, S, E, p⟩ := h
  unfold rnS at p; simp only [runS] at p
  exact p
theorem z_nilS : PSsz Z n cx W .nil [] := pss_nil.imp fun D σ H h => by
  obtain ⟨al, ρ, M, S, E, p⟩ := h
  unfold rnSs at p; simp only [runSs] at p
  exact p.nxt S E
theorem z_consS {a : Sm} {r : Sms} {s : Stmt} {ss : List Stmt} (ha : PSz Z n cx W a s) (hr : PSsz Z n cx W r ss) : PSsz Z n cx W (.cons a r) (s :: ss) := (pss_cons ha hr).imp fun D σ H h => by
  obtain ⟨al, ρ, M, S, E, p⟩ := h
  unfold rnSs at p; simp only [runSs] at p
  refine ⟨al, ρ, M, S, E, ?_⟩
  show PoS _ _ _ _ _ _ (runS Z.P Z.wf (callF Z.P Z.wf n) a ρ M)
  revert p
  match runS Z.P Z.wf (callF Z.P Z.wf n) a ρ M with
  | some (.nx ρ', M') => exact fun p al' H' σ' s S' E' => ⟨al', ρ', M', S', E', PoS.step p s⟩
  | some (.bk ρ', M') => exact fun p => p
  | some (.ct ρ', M') => exact fun p => p
  | some (.rt d, M') => exact fun p => p
  | some (.er c fs ρ', M') => exact fun p => p
  | none => exact fun p => p
theorem z_brk : PSz Z n cx W .brk (.Break pos) := ps_break.imp fun D σ H h => by
  obtain ⟨al, ρ, M, S, E, p⟩ := h
  unfold rnS at p; simp only [runS] at p
  exact p al H σ Stp.refl S E
theorem z_ctn : PSz Z n cx W .ctn (.Continue pos) := ps_continue.imp fun D σ H h => by
  obtain ⟨al, ρ, M, S, E, p⟩ := h
  unfold rnS at p; simp only [runS] at p
  exact p al H σ Stp.refl S E
theorem z_pass : PSz Z n cx W .pass (.Pass pos) := ps_pass.imp fun D σ H h => by
  obtain ⟨al, ρ, M, S, E, p⟩ := h
  unfold rnS at p; simp only [runS] at p
  exact p.nxt S E
theorem z_retN : PSz Z n cx W .retN (.Return none pos) := ps_retN.imp fun D σ H h => by
  obtain ⟨al, ρ, M, S, E, p⟩ := h
  unfold rnS at p; simp only [runS] at p
  exact p al H .non Stp.refl S non_rep
theorem z_ret {a : Xp} {e : Expr} (ha : PEz Z n cx W a e) : PSz Z n cx W (.ret a) (.Return (some e) pos) := (ps_ret ha).imp fun D σ H h => by
  unfold rnS at h; simp only [runS] at h
  refine (tS_ex (R := rE Z.toGy) h).mono ?_
  rintro v H1 ⟨al, ρ, M, d, S, E, r, p⟩
  exact p al H1 v Stp.refl S r
theorem z_ex {a : Xp} {e : Expr} (hn : noComp e = true) (ha : PEz Z n cx W a e) : PSz Z n cx W (.ex a) (.Expr e pos) := (ps_expr ha (noComp_of hn)).imp fun D σ H h => by
  unfold rnS at h; simp only [runS] at h
  refine (tS_ex (R := rE Z.toGy) h).mono ?_
  rintro v H1 ⟨al, ρ, M, d, S, E, r, p⟩
  exact p.nxt S E
theorem z_ite {t : Tp} {a b : Sms} {q : Expr} {xs ys : List Stmt} (ht : PTz Z n cx W t q) (ha : PSsz Z n cx W a xs) (hb : PSsz Z n cx W b ys) : PSz Z n cx W (.ite t a b) (.If q xs ys pos) := (ps_if ht ha hb).imp fun D σ H h => by
  unfold rnS at h; simp only [runS] at h
  refine (tS_ex (R := rId) (f := rnT Z n t) (g := fun ρ k M1 => match k with | true => rnSs Z n a ρ M1 | false => rnSs Z n b ρ M1) h).mono ?_
  rintro k H1 ⟨al, ρ, M, k', S, E, e, p⟩
  cases e
  cases k with
  | true => exact (if_pos rfl).mpr ⟨al, ρ, M, S, E, p⟩
  | false => exact (if_neg (by simp)).mpr ⟨al, ρ, M, S, E, p⟩
/-- name = value, or a pattern of names -/
theorem asg_sem {gp : Gp} {a : Xp} {D : Ends} {σ : L2.St} {H : Hp} (h : tS Z.toGy W (rnS Z n (.asg gp a)) D σ H) : tE Z.toGy W (rnE Z n a) σ H fun x H1 => tGp Z gp x σ H1 D.nx := by
  unfold rnS at h; simp only [runS] at h
  refine (tS_ex (R := rE Z.toGy) (g := fun ρ d M1 => match bindG gp d ρ with | some ρ' => some (.nx ρ', M1) | none => none) h).mono ?_
  rintro v H1 ⟨al, ρ, M, d, S, E, r, p⟩
  cases q : bindG gp d ρ with
  | none => simp only [q] at p; exact p.elim
  | some ρ' =>
    simp only [q] at p
    exact ⟨al, ρ, M, d, ρ', S, E, r, q, fun σ' E' _ => p.nxt S E'⟩
theorem z_asg {gp : Gp} {a : Xp} {tg e : Expr} (hg : PG cx tg (tGp Z gp)) (ha : PEz Z n cx W a e) (hs : swapsWithSole [tg] e pos.line cx.env = pure false) (hw : swappedStores [tg] e cx.env = pure none) (hst : noStar tg = true) : PSz Z n cx W (.asg gp a) (.Assign [tg] e pos) :=
  (ps_asg ha hg hs hw (assignEach_one hst)).imp fun D σ H h => asg_sem h
theorem z_asgF {o a : Xp} {f : Nat} {l e : Expr} {x : Str} {p' : Pos} (g : Good Z c cx n) (hm : c.nmd f x = true) (ho : PEz Z n cx W o l) (ha : PEz Z n cx W a e) : PSz Z n cx W (.asgF o f a) (.Assign [.Attribute l x p'] e pos) :=
  (ps_fld (f := x) ho ha (sw_other (t := .Attribute l x p') (l := pos.line) (env := cx.env) rfl)).imp fun D σ H h => by
    obtain ⟨rfl, hml⟩ := Ck.nmd_of g.P hm
    unfold rnS at h; simp only [runS] at h
    obtain ⟨al, ρ, M, S, E, p⟩ := h
    refine ⟨al, ρ, M, S, E, (PoS.ex (R := rE Z.toGy) S E p).mono ?_⟩
    rintro y H1 ⟨al1, M1, d, s1, S1, E1, r1, p1⟩
    refine ⟨al1, ρ, M1, S1, E1, (PoS.ex (R := rE Z.toGy) S1 E1 p1).mono ?_⟩
    rintro v H2 ⟨al2, M2, b, s2, S2, E2, r2, p2⟩
    have r1' := Rep.mono S1 s2 _ _ r1
    split at p2
    · rename_i m
      split at p2
      · rename_i k fs e
        split at p2
        · rename_i hf
          obtain ⟨a, dx, vfs, rfl, hget, hH, hfs, hlt, hlv⟩ := ins_at S2 r2 e
          have hF := hf.1
          unfold hasF at hF
          split at hF
          · rename_i kl ek
            have hno := g.lnk.noat k kl f ek (by simpa using hF)
            have hcl := g.lnk.cls k kl ek
            have hlen : vfs.length = fs.length := by
              have : ∀ {fs : List (Nat × G.D)} {vfs : List (Str × V)}, Fsr Z.nm Z.K H2 al2 M2 fs vfs → vfs.length = fs.length := by
                intro fs
                induction fs with
                | nil => intro vfs h; rw [show vfs = [] from h]; rfl
                | cons p fs ih =>
                  intro vfs h
                  obtain ⟨v, r, e, _, h2⟩ := h
                  rw [e, List.length_cons, List.length_cons, ih h2]
              exact this hfs
            refine ⟨a, Z.cl k, dx, vfs, rfl, hH, hcl, hno, by rw [hlen]; omega, ?_⟩
            have hset := Fsr.set (X := Z.toGx) g.lnk.nms hml r1' hlt hfs
            have st : Stp H2 al2 M2 (upd H2 a (.ins (Z.cl k) dx (putF (Z.nm f) y vfs))) al2 (M2.set m (.ins k (setF f d fs))) := Stp.chg S2 hlv hget
            exact p2 al2 _ σ st (S2.chg hlv hget ⟨dx, _, upd_same, Fsr.mono S2 st _ _ hset.1, hset.2⟩) (E2.mono S2 st)
          · cases hF
        · exact p2.elim
      · exact p2.elim
    · exact p2.elim
theorem z_asgI {o i a : Xp} {l r e : Expr} {p' : Pos} (g : Good Z c cx n) (hsl : noSlice r = true) (ho : PEz Z n cx W o l) (hi : PEz Z n cx W i r) (ha : PEz Z n cx W a e) : PSz Z n cx W (.asgI o i a) (.Assign [.Subscript l r p'] e pos) :=
  (ps_asg ha (pg_sub ho hi set_list (by intro v; cases r <;> first | rfl | cases hsl)) (sw_other rfl) (swapped_other rfl) rfl).imp fun D σ H h => by
    unfold rnS at h; simp only [runS] at h
    obtain ⟨al, ρ, M, S, E, p⟩ := h
    refine ⟨al, ρ, M, S, E, (PoS.ex (R := rE Z.toGy) S E p).mono ?_⟩
    rintro y H1 ⟨al1, M1, d, s1, S1, E1, r1, p1⟩
    refine ⟨al1, ρ, M1, S1, E1, (PoS.ex (R := rE Z.toGy) S1 E1 p1).mono ?_⟩
    rintro v H2 ⟨al2, M2, b, s2, S2, E2, r2, p2⟩
    refine ⟨al2, ρ, M2, S2, E2, (PoS.ex (R := rE Z.toGy) S2 E2 p2).mono ?_⟩
    rintro u H3 ⟨al3, M3, j, s3, S3, E3, r3, p3⟩
    have r1' := Rep.mono S1 (s2.trans s3) _ _ r1
    have r2' := Rep.mono S2 s3 _ _ r2
    split at p3
    · rename_i m k
      split at p3
      · rename_i xs e
        split at p3
        · rename_i jj ej
          obtain ⟨a, vs, rfl, hget, hH, hr, hlv⟩ := ptr_at (X := Z.toGy) S3 r2' e
          cases rep_int (X := Z.toGy) r3
          refine ⟨a, vs, k, jj, rfl, rfl, hH, by rw [hr.length]; exact ej, ?_⟩
          have st : Stp H3 al3 M3 (upd H3 a (.lst (vs.set jj y))) al3 (M3.set m (.lst (xs.set jj d))) := Stp.chg S3 hlv hget
          exact p3 al3 _ σ st (S3.chg hlv hget ⟨_, upd_same, Reps.mono S3 st _ _ (Reps.setl r1' jj hr)⟩) (E3.mono S3 st)
        · exact p3.elim
      · exact p3.elim
    · exact p3.elim
theorem z_aug {i : Nat} {op : Bop} {a : Xp} {e : Expr} {x : Str} {p' : Pos} (g : Good Z c cx n) (ht : c.tgt i x = true) (hop : op = .add ∨ op = .sub) (ha : PEz Z n cx W a e) : PSz Z n cx W (.aug i op a) (.AugAssign (.Name x p') (astB op) e pos) := by
  obtain ⟨h1, h2, h3⟩ := Ck.tgt_of g ht
  have key : ∀ {f : Int → Int → Int} {k : Bop}, (∀ a b : Int, ∀ (ρ : Rho) (M1 : Store), (match k with | .add => some (Fl.nx (ρ.set i (some (.int (a + b)))), M1) | .sub => some (.nx (ρ.set i (some (.int (a - b)))), M1) | _ => none) = some (Fl.nx (ρ.set i (some (.int (f a b)))), M1)) → ∀ D σ H, tS Z.toGy W (rnS Z n (.aug i k a)) D σ H → tAug i (tE Z.toGy W (rnE Z n a)) (ipI f) D σ H := by
    intro f k hf D σ H h
    unfold rnS at h; simp only [runS] at h
    obtain ⟨al, ρ, M, S, E, p⟩ := h
    dsimp only at p
    split at p
    · rename_i x e1
      obtain ⟨v, hv, rv⟩ := E.at_ i x e1
      refine ⟨v, hv, al, ρ, M, S, E, (PoS.ex (R := rE Z.toGy) S E p).mono ?_⟩
      rintro y H1 ⟨al1, M1, d, s1, S1, E1, r1, p1⟩
      have rv' := Rep.mono S s1 _ _ rv
      split at p1
      · rename_i a b
        cases rep_int (X := Z.toGy) r1
        cases rep_int (X := Z.toGy) rv'
        refine ⟨a, b, rfl, rfl, ?_⟩
        exact PoS.nxt S1 (E1.set (by rw [Rep]) i) ((congrArg (PoS Z.toGy W D H1 al1 M1) (hf a b ρ M1)).mp p1)
      · exact p1.elim
    · exact p.elim
  rcases hop with rfl | rfl
  · exact (ps_aug (by rw [g.N]; exact g.nd) h1 h2 ha ip_add h3).imp (key fun a b ρ M1 => rfl)
  · exact (ps_aug (by rw [g.N]; exact g.nd) h1 h2 ha ip_sub h3).imp (key fun a b ρ M1 => rfl)
end
end G

/-! GStn -/
set_option maxRecDepth 100000
set_option maxHeartbeats 4000000
namespace L2
open PySem PySem.Spec PyProof.Rows
theorem get_lst {X : Cx} : PGet X (rIxL X.K) := by
  intro pins s σ H x y v u Q I rx ry h
  obtain ⟨p, xs, i, z, rfl, rfl, hq, he, q⟩ := h
  cases rx
  obtain ⟨t, rfl⟩ := ry
  obtain ⟨its, r, pl, hz⟩ := I.list hq
  obtain ⟨j, g1, g2, g3, g4, g5⟩ := atI_get he
  obtain ⟨w, ew, hw⟩ := r.get g2
  have hl := r.length
  have hn := line63
  have fin : EP X pins σ Q w s := ⟨z, H, I, hw, q⟩
  by_cases h0 : 0 ≤ i
  · have hj : i.toNat = j := Option.some.inj ((seqIndex_of h0 g5).symm.trans g1)
    exact wpAny_getItem_list pl.isList h0 (by omega) (by rw [hj]; simpa using ew) fin
  · have hj : (i + (its.toArray.size : Int)).toNat = j := by
      rw [seqIndex_neg (by omega) g4] at g1
      rw [List.size_toArray, ← hl]
      exact Option.some.inj g1
    exact wpAny_getItem_list_neg pl.isList (by omega) (by rw [List.size_toArray] <;> omega) (by omega) (by rw [hj]; simpa using ew) fin
end L2
namespace G
open PySem PySem.Spec PyProof.Rows L2
section
variable {Z : Gz} {n : Nat} {cx : Cx} {c : Ck} {W : WX} {pos : Pos}
theorem z_augI {o i a : Xp} {op : Bop} {l r e : Expr} {p' : Pos} (g : Good Z c cx n) (hsl : noSlice r = true) (hop : op = .add ∨ op = .sub) (ho : PEz Z n cx W o l) (hi : PEz Z n cx W i r) (ha : PEz Z n cx W a e) : PSz Z n cx W (.augI o i op a) (.AugAssign (.Subscript l r p') (astB op) e pos) := by
  have key : ∀ {f : Int → Int → Int} {k : Bop}, (∀ (a b : Int) (m j : Nat) (ys : List G.D) (ρ : Rho) (M3 : Store), (match k with | .add => some (Fl.nx ρ, M3.set m (.lst (ys.set j (.int (a + b))))) | .sub => some (Fl.nx ρ, M3.set m (.lst (ys.set j (.int (a - b))))) | _ => none) = some (Fl.nx ρ, M3.set m (.lst (ys.set j (.int (f a b)))))) →
      ∀ D σ H, tS Z.toGy W (rnS Z n (.augI o i k a)) D σ H → tAugS (tE Z.toGy W (rnE Z n o)) (tE Z.toGy W (rnE Z n i)) (tE Z.toGy W (rnE Z n a)) (rIxL cx.K) (ipI f) rSetL D σ H := by
    intro f k hf D σ H h
    unfold rnS at h; simp only [runS] at h
    obtain ⟨al, ρ, M, S, E, p⟩ := h
    refine ⟨al, ρ, M, S, E, (PoS.ex (R := rE Z.toGy) S E p).mono ?_⟩
    rintro y H1 ⟨al1, M1, d, s1, S1, E1, r1, p1⟩
    refine ⟨al1, ρ, M1, S1, E1, (PoS.ex (R := rE Z.toGy) S1 E1 p1).mono ?_⟩
    rintro v H2 ⟨al2, M2, b, s2, S2, E2, r2, p2⟩
    have r1' := Rep.mono S1 s2 _ _ r1
    split at p2
    · rename_i m k2
      split at p2
      · rename_i xs e
        split at p2
        · rename_i x ex
          obtain ⟨a1, vs, rfl, hget, hH, hr, hlv⟩ := ptr_at (X := Z.toGy) S2 r1' e
          cases rep_int (X := Z.toGy) r2
          obtain ⟨w, hw, rw'⟩ := atI_reps hr ex
          refine ⟨a1, vs, k2, w, rfl, rfl, SqL.of hH, hw, ?_⟩
          refine ⟨al2, ρ, M2, S2, E2, (PoS.ex (R := rE Z.toGy) S2 E2 p2).mono ?_⟩
          rintro u H3 ⟨al3, M3, z, s3, S3, E3, r3, p3⟩
          have r1'' := Rep.mono S2 s3 _ _ r1'
          have rx := Rep.mono S2 s3 _ _ rw'
          split at p3
          · rename_i bb
            cases rep_int (X := Z.toGy) r3
            cases rep_int (X := Z.toGy) rx
            split at p3
            · rename_i ys e3
              split at p3
              · rename_i j ej
                obtain ⟨a2, vs2, ea, hget2, hH2, hr2, hlv2⟩ := ptr_at (X := Z.toGy) S3 r1'' e3
                cases ea
                refine ⟨_, _, rfl, rfl, a1, vs2, k2, j, rfl, rfl, hH2, by rw [hr2.length]; exact ej, ?_⟩
                have p4 := (congrArg (PoS Z.toGy W D H3 al3 M3) (hf x bb m j ys ρ M3)).mp p3
                have st : Stp H3 al3 M3 (upd H3 a1 (.lst (vs2.set j (.int (f x bb))))) al3 (M3.set m (.lst (ys.set j (.int (f x bb))))) := Stp.chg S3 hlv2 hget2
                exact p4 al3 _ σ st (S3.chg hlv2 hget2 ⟨_, upd_same, Reps.mono S3 st _ _ (Reps.setl (by rw [Rep]) j hr2)⟩) (E3.mono S3 st)
              · exact p3.elim
            · exact p3.elim
          · exact p3.elim
        · exact p2.elim
      · exact p2.elim
    · exact p2.elim
  have hau : ∀ ov iv new, augStore r ov iv new = (do holding [new, ov, iv] (setItem ov iv new); release [new, ov, iv] []; pure .next) := by
    intro ov iv new
    cases r <;> first | rfl | cases hsl
  rcases hop with rfl | rfl
  · exact (ps_augS ho hi get_lst ha ip_add set_list hau).imp (key fun _ _ _ _ _ _ _ => rfl)
  · exact (ps_augS ho hi get_lst ha ip_sub set_list hau).imp (key fun _ _ _ _ _ _ _ => rfl)

/-- a, b = x, y -/
def parB (c : Ck) (x y : Str) (px py : Pos) (a b : Expr) : Bool :=
  (match c.sc.names.lookup x with | some .local => true | _ => false) && (match c.sc.names.lookup y with | some .local => true | _ => false) && (px.line == py.line) && !(x == y) &&
    !(foldedForSure 8 a && foldedForSure 8 b) && !(constantsAlone 8 a && constantsAlone 8 b) && noStar a && noStar b
def isStar : Expr → Bool | .Starred .. => true | _ => false
theorem par_of {x y : Str} {px py pt p2 : Pos} {kt k2 : Nat} {a b : Expr} {env : Env} (hk : env.scope.kind = .function) (h1 : env.scope.names.lookup x = some .local) (h2 : env.scope.names.lookup y = some .local) (h3 : (px.line == py.line) = true) (h4 : (x == y) = false)
    (h5 : (foldedForSure 8 a && foldedForSure 8 b) = false) (h6 : (constantsAlone 8 a && constantsAlone 8 b) = false) (h7 : noStar a = true) (h8 : noStar b = true) :
    swappedStores [.Tuple [.Name x px, .Name y py] kt pt] (.Tuple [a, b] k2 p2) env = pure (some [x, y]) := by
  have hb : env.blockKind = .function := by unfold Env.blockKind; rw [hk]; rfl
  have kx : env.kindOf x = some .local := h1
  have ky : env.kindOf y = some .local := h2
  have hs1 : ∀ e : Expr, noStar e = true → isStar e = false := by
    intro e h
    cases e <;> first | rfl | (have h' : false = true := h; cases h')
  have hst : List.any [a, b] (fun | .Starred .. => true | _ => false) = false := by
    show (isStar a || (isStar b || false)) = false
    rw [hs1 a h7, hs1 b h8]; rfl
  have h3' : (py.line == px.line) = true := by
    rw [beq_iff_eq] at h3 ⊢; exact h3.symm
  have hyx : (y == x) = false := by
    rw [beq_eq_false_iff_ne] at h4 ⊢; exact h4.symm
  have hpx : (px.line == px.line) = true := beq_self_eq_true _
  have herase : [x, y].eraseDups = [x, y] := by
    rw [List.eraseDups_cons]
    have hf : List.filter (fun b => !b == x) [y] = [y] := by simp [List.filter, hyx]
    rw [hf, List.eraseDups_cons]
    rfl
  unfold swappedStores
  simp only [List.length_cons, List.length_nil, hb, hst, List.head?_cons, Option.map_some, Option.getD_some, Expr.pos]
  show (_ : Sem (Option (List Str))) = _
  have e1 : List.all [a, b] (foldedForSure 8) = false := by simpa [List.all_cons] using h5
  have e2 : List.all [a, b] (constantsAlone 8) = false := by simpa [List.all_cons] using h6
  simp only [List.filterMap_cons, List.filterMap_nil, kx, ky, hpx, h3', beq_self_eq_true, Bool.and_self, if_true, herase, e1, e2]
  exact (if_neg (by decide)).trans ((if_neg (fun h => Bool.false_ne_true (hst.symm.trans h))).trans rfl)
theorem z_par {i j : Nat} {a b : Xp} {e e' : Expr} {x y : Str} {px py pt p2 : Pos} {kt k2 : Nat} (g : Good Z c cx n) (hk : c.sc.kind = .function) (hij : i ≠ j) (hx : c.N[i]? = some x) (hy : c.N[j]? = some y) (hp : parB c x y px py e e' = true) (ha : PEz Z n cx W a e) (hb : PEz Z n cx W b e') :
    PSz Z n cx W (.par i j a b) (.Assign [.Tuple [.Name x px, .Name y py] kt pt] (.Tuple [e, e'] k2 p2) pos) := by
  unfold parB at hp
  simp only [Bool.and_eq_true, Bool.not_eq_true', beq_iff_eq] at hp
  obtain ⟨⟨⟨⟨⟨⟨⟨h1, h2⟩, h3⟩, h4⟩, h5⟩, h6⟩, h7⟩, h8⟩ := hp
  have l1 : cx.env.scope.names.lookup x = some .local := by
    rw [g.sc]
    split at h1
    · assumption
    · cases h1
  have l2 : cx.env.scope.names.lookup y = some .local := by
    rw [g.sc]
    split at h2
    · assumption
    · cases h2
  have hpa : PA cx [e, e'] (tA Z.toGy W (rnA Z n (.cons a (.cons b .nil)))) := z_consA h7 ha (z_consA h8 hb z_nilA)
  refine (ps_par (kt := kt) (pt := pt) (k2 := k2) (pt2 := p2) (px := px) (py := py) g.calm (by rw [g.N]; exact g.nd) (by rw [g.N]; exact hx) (by rw [g.N]; exact hy) hij l1 l2 hpa
    (par_of (by rw [g.sc]; exact hk) l1 l2 (by simpa using h3) h4 h5 h6 h7 h8) (sw_other rfl)).imp fun D σ H h => ?_
  unfold rnS at h; simp only [runS] at h
  obtain ⟨al, ρ, M, S, E, p⟩ := h
  refine ⟨al, ρ, M, S, E, ?_⟩
  unfold rnA; simp only [runA]
  dsimp only at p
  cases qa : runE Z.P Z.wf (callF Z.P Z.wf n) ρ a M with
  | stuck => rw [qa] at p; exact p.elim
  | err c fs M' => rw [qa] at p; exact fun al' H' cls dd s S' x => p al' H' σ cls dd s S' (E.mono S s) x
  | ok u M1 =>
    rw [qa] at p
    simp only [withE_ok, bind_ok] at p ⊢
    cases qb : runE Z.P Z.wf (callF Z.P Z.wf n) ρ b M1 with
    | stuck => rw [qb] at p; exact p.elim
    | err c fs M' => rw [qb] at p; exact fun al' H' cls dd s S' x => p al' H' σ cls dd s S' (E.mono S s) x
    | ok w M2 =>
      rw [qb] at p
      simp only [withE_ok, bind_ok] at p ⊢
      intro al' H' vs s S' r
      have r : Reps Z.K H' al' M2 [u, w] vs := r
      rw [Reps] at r
      obtain ⟨v1, r1, rfl, k1, r⟩ := r
      rw [Reps] at r
      obtain ⟨v2, r2, rfl, k2, r⟩ := r
      rw [Reps] at r
      subst r
      exact ⟨v1, v2, rfl, p al' H' _ s S' (((E.mono S s).set k1 i).set k2 j)⟩

/-- behind a turn: the loop goes on -/
def NxF (Z : Gz) (W : WX) (D : Ends) (k : Wk) (J : It) (go : Rho → Store → Out) : L2.St → Hp → Prop := fun σ H => ∃ al ρ M, Sto Z.toGx H al M ∧ Envr Z.K H al M σ ρ ∧ rI Z H al M k J ∧ PoS Z.toGy W D H al M (go ρ M)
theorem z_fo {gp : Gp} {it : Ip} {b : Sms} {tg iter : Expr} {body : List Stmt} (g : Good Z c cx n) (hp : PassesOwn (model cx.prog cx.w) cx.A cx.env cx.xe) (hi : PI cx tg iter (tI Z W (rnI Z n it))) (hg : PG cx tg (tGp Z gp)) (hb : PSsz Z n cx W b body)
    (hs : ∀ x, foldedSetIterable iter cx.env x = pure x) : PSz Z n cx W (.fo gp it b) (.For tg iter body [] pos) := (ps_for hp g.calm hi hg hb hs).imp fun D σ H h => by
  unfold rnS at h; simp only [runS] at h
  refine (tS_ex (R := rI Z) (f := rnI Z n it) h).mono ?_
  rintro J H1 ⟨al, ρ, M, k, S, E, rk, p⟩
  generalize hF : (fun (x : G.D) (ρ : Rho) (M : Store) => match bindG gp x ρ with | some ρ' => runSs Z.P Z.wf (callF Z.P Z.wf n) b ρ' M | none => none) = F at p
  -- one turn
  have step : ∀ {al : Am} {ρ : Rho} {M : Store} {σ : L2.St} {H : Hp} {x : V} {d : G.D} {go : Rho → Store → Out} {k : Wk}, Sto Z.toGx H al M → Envr Z.K H al M σ ρ → rI Z H al M k J → Rep Z.K H al M d x → PoS Z.toGy W D H al M (turn (F d ρ M) go) →
      tGp Z gp x σ H fun σ2 H2 => tS Z.toGy W (rnSs Z n b) { D with nx := NxF Z W D k J go, ct := NxF Z W D k J go, bk := D.nx } σ2 H2 := by
    intro al ρ M σ H x d go k S E rk rx p
    rw [← hF] at p
    dsimp only at p
    split at p
    · rename_i ρ' eb
      refine ⟨al, ρ, M, d, ρ', S, E, rx, eb, fun σ' E' _ => ⟨al, ρ', M, S, E', ?_⟩⟩
      show PoS _ _ _ _ _ _ (runSs Z.P Z.wf (callF Z.P Z.wf n) b ρ' M)
      revert p
      match runSs Z.P Z.wf (callF Z.P Z.wf n) b ρ' M with
      | some (.nx ρ2, M2) => exact fun p al2 H2 σ2 s2 S2 E2 => ⟨al2, ρ2, M2, S2, E2, rk.mono S s2, PoS.step p s2⟩
      | some (.ct ρ2, M2) => exact fun p al2 H2 σ2 s2 S2 E2 => ⟨al2, ρ2, M2, S2, E2, rk.mono S s2, PoS.step p s2⟩
      | some (.bk ρ2, M2) => exact fun p al2 H2 σ2 s2 S2 E2 => p al2 H2 σ2 s2 S2 E2
      | some (.rt d, M2) => exact fun p => p
      | some (.er c fs ρ2, M2) => exact fun p => p
      | none => exact fun p => p.elim
    · exact p.elim
  cases k with
  | items xs =>
    refine ⟨fun i m σ H => ∃ al ρ M, Sto Z.toGx H al M ∧ Envr Z.K H al M σ ρ ∧ rI Z H al M (.items xs) J ∧ m = xs.length - i ∧ PoS Z.toGy W D H al M (forL F (xs.drop i) ρ M), ⟨xs.length, al, ρ, M, S, E, rk, rfl, by rw [List.drop_zero]; exact p⟩, ?_⟩
    rintro i m σ H ⟨al, ρ, M, S, E, rk, rfl, p⟩
    by_cases hlt : i < xs.length
    · rw [List.drop_eq_getElem_cons hlt, forL] at p
      obtain ⟨h1, h2⟩ := rI_go S rk (i := i) (d := xs[i]) (by simp [hlt])
      refine .inr ⟨h1, NxF Z W D (.items xs) J (fun ρ' M' => forL F (xs.drop (i + 1)) ρ' M'), ?_, fun x H' y => ?_⟩
      rotate_left
      · obtain ⟨rfl, rx⟩ := h2 x H' y
        exact step S E rk rx p
      · rintro σ' H' ⟨al', ρ', M', S', E', rk', p'⟩
        exact ⟨xs.length - (i + 1), by omega, al', ρ', M', S', E', rk', rfl, p'⟩
    · have hd : xs.drop i = [] := List.drop_eq_nil_of_le (Nat.le_of_not_lt hlt)
      rw [hd, forL] at p
      exact .inl ⟨rI_stop S rk (Nat.le_of_not_lt hlt), p.nxt S E⟩
  | hot a =>
    refine ⟨fun i m σ H => ∃ al ρ M, Sto Z.toGx H al M ∧ Envr Z.K H al M σ ρ ∧ rI Z H al M (.hot a) J ∧ PoS Z.toGy W D H al M (forH a F m i ρ M), ⟨Z.wf, al, ρ, M, S, E, rk, p⟩, ?_⟩
    rintro i m σ H ⟨al, ρ, M, S, E, rk, p⟩
    cases m with
    | zero => exact p.elim
    | succ m =>
      rw [forH] at p
      split at p
      · rename_i xs e1
        obtain ⟨h0, h00⟩ := rI_hot S rk e1
        split at p
        · rename_i e2
          exact .inl ⟨h0 i (List.getElem?_eq_none_iff.mp e2), p.nxt S E⟩
        · rename_i d e2
          obtain ⟨h1, h2⟩ := h00 i d e2
          refine .inr ⟨h1, NxF Z W D (.hot a) J (fun ρ' M' => forH a F m (i + 1) ρ' M'), ?_, fun x H' y => ?_⟩
          rotate_left
          · obtain ⟨rfl, rx⟩ := h2 x H' y
            exact step S E rk rx p
          · rintro σ' H' ⟨al', ρ', M', S', E', rk', p'⟩
            exact ⟨m, Nat.lt_succ_self m, al', ρ', M', S', E', rk', p'⟩
      · exact p.elim
theorem z_whl {t : Tp} {b : Sms} {q : Expr} {body : List Stmt} (hp : PassesOwn (model cx.prog cx.w) cx.A cx.env cx.xe) (ht : PTz Z n cx W t q) (hb : PSsz Z n cx W b body) : PSz Z n cx W (.whl t b) (.While q body [] pos) := (ps_while hp ht hb).imp fun D σ H h => by
  unfold rnS at h; simp only [runS] at h
  obtain ⟨al, ρ, M, S, E, p⟩ := h
  refine ⟨fun m σ H => ∃ al ρ M, Sto Z.toGx H al M ∧ Envr Z.K H al M σ ρ ∧ PoS Z.toGy W D H al M (whileL (fun ρ M => runT Z.P Z.wf (callF Z.P Z.wf n) ρ t M) (fun ρ M => runSs Z.P Z.wf (callF Z.P Z.wf n) b ρ M) m ρ M), ⟨Z.wf, al, ρ, M, S, E, p⟩, ?_⟩
  rintro m σ H ⟨al, ρ, M, S, E, p⟩
  cases m with
  | zero => exact p.elim
  | succ m =>
    rw [whileL] at p
    refine ⟨al, ρ, M, S, E, (PoS.ex (R := rId) S E p).mono ?_⟩
    rintro k H1 ⟨al1, M1, k', s1, S1, E1, e, p1⟩
    cases e
    cases k with
    | false => exact (if_neg (by simp)).mpr (p1.nxt S1 E1)
    | true =>
      refine (if_pos rfl).mpr ⟨fun σ H => ∃ al ρ M, Sto Z.toGx H al M ∧ Envr Z.K H al M σ ρ ∧ PoS Z.toGy W D H al M (whileL (fun ρ M => runT Z.P Z.wf (callF Z.P Z.wf n) ρ t M) (fun ρ M => runSs Z.P Z.wf (callF Z.P Z.wf n) b ρ M) m ρ M), fun σ' H' q => ⟨m, Nat.lt_succ_self m, q⟩, al1, ρ, M1, S1, E1, ?_⟩
      show PoS _ _ _ _ _ _ (runSs Z.P Z.wf (callF Z.P Z.wf n) b ρ M1)
      dsimp only at p1
      revert p1
      match runSs Z.P Z.wf (callF Z.P Z.wf n) b ρ M1 with
      | some (.nx ρ2, M2) => exact fun p al2 H2 σ2 s2 S2 E2 => ⟨al2, ρ2, M2, S2, E2, PoS.step p s2⟩
      | some (.ct ρ2, M2) => exact fun p al2 H2 σ2 s2 S2 E2 => ⟨al2, ρ2, M2, S2, E2, PoS.step p s2⟩
      | some (.bk ρ2, M2) => exact fun p al2 H2 σ2 s2 S2 E2 => p al2 H2 σ2 s2 S2 E2
      | some (.rt d, M2) => exact fun p => p
      | some (.er c fs ρ2, M2) => exact fun p => p
      | none => exact fun p => p.elim
end
end G

/-! GExc -/
set_option maxRecDepth 100000
set_option maxHeartbeats 4000000
namespace G
open PySem PySem.Spec PyProof.Rows L2
section
variable {K : PySem.W.Frag} {H : Hp} {al : Am} {M : Store}
theorem Reps.reverse : ∀ {ds : List G.D} {vs : List V}, Reps K H al M ds vs → Reps K H al M ds.reverse vs.reverse
  | [], vs, h => by rw [Reps] at h; subst h; exact Reps.nil
  | d :: ds, vs, h => by
    rw [Reps] at h
    obtain ⟨v, r, e, h1, h2⟩ := h
    subst e
    rw [List.reverse_cons, List.reverse_cons]
    exact (Reps.reverse h2).append (.cons h1 .nil)
theorem Fsr_zip {nm : Nat → Str} : ∀ {fl : List Nat} {ds : List G.D} {vs : List V}, Reps K H al M ds vs → Fsr nm K H al M (fl.zip ds) ((fl.map nm).zip vs)
  | [], ds, vs, h => by rfl
  | f :: fl, [], vs, h => by rw [Reps] at h; subst h; rfl
  | f :: fl, d :: ds, vs, h => by
    rw [Reps] at h
    obtain ⟨v, r, e, h1, h2⟩ := h
    subst e
    exact ⟨v, (fl.map nm).zip r, rfl, h1, Fsr_zip h2⟩
end
section
variable {Z : Gz} {n : Nat} {cx : Cx} {c : Ck} {W : WX} {pos : Pos}
theorem exc_heap {H : Hp} {a d : Addr} {C : Addr} {fs : List (Str × V)} (ha : H a = none) (hd : H d = none) (hda : d ≠ a) :
    upd (del (upd (upd (upd H a (exo a C none)) d (exd d fs)) a (exo a C (some d))) a) d (.xd fs) = upd H d (.xd fs) := by
  funext b
  by_cases h1 : b = d
  · subst h1; rw [upd_same, upd_same]
  · rw [upd_ne h1, upd_ne h1]
    by_cases h2 : b = a
    · subst h2; rw [del_same, ha]
    · rw [del_ne h2, upd_ne h2, upd_ne h1, upd_ne h2]
theorem z_rais {k : Nat} {e : Er} {as : Xps} {x : Str} {p p2 : Pos} {a : Expr} {es : List Expr} (g : Good Z c cx n) (tk : Takes cx W) (hk : Z.P.ers[k]? = some e) (hx : e.name = x) (hc : c.glb x = true) (hst : (a :: es).all noStar = true) (ha : PAz Z n cx W as (a :: es)) :
    PSz Z n cx W (.rais k as) (.Raise (some (.Call (.Name x p) (a :: es) [] p2)) none pos) := by
  have eg := g.lnk.ers k e hk
  obtain ⟨T, fI, fd, ps, iC, tI, F, hb⟩ := eg.ex
  obtain ⟨hg, hdb⟩ := g.gl hc
  have hm := g.lnk.erm k e hk
  rw [hx] at hm
  rw [List.all_cons, Bool.and_eq_true] at hst
  have pm := pmk_oex (pos := p2) (p := p) (dvs := []) T iC tI F g.room hb .nil passL hg hm ha hdb (starEach_cons hst.1) (star_plain hst.2)
  refine (ps_raise (pos := pos) g.calm tk pm).imp fun D σ H h => ?_
  unfold rnS at h; simp only [runS] at h
  obtain ⟨al, ρ, M, S, E, q⟩ := h
  refine ⟨al, ρ, M, S, E, (PoS.ex (R := rA Z.toGy) S E q).mono ?_⟩
  rintro vs H1 ⟨al1, M1, ds, s1, S1, E1, r1, q1⟩
  have r1 : Reps Z.K H1 al1 M1 ds vs := r1
  rw [hk] at q1
  dsimp only at q1
  split at q1
  · rename_i hl
    have hvl : vs.length = e.flds.length := by rw [r1.length]; exact hl
    refine ⟨by rw [hvl]; have := eg.few; omega, fun a0 ha0 => ?_⟩
    rw [List.append_nil]
    refine ⟨a0, vs, rfl, hvl, upd_same, fun d hd hda => ⟨rfl, d, _, upd_same, by rw [upd_ne hda, upd_same], ?_, ?_⟩⟩
    · rw [upd_ne hda] at hd; exact hd
    · rw [upd_ne hda] at hd
      rw [exc_heap ha0 hd hda]
      have st : Stp H1 al1 M1 (upd H1 d (.xd ((e.flds.map Z.nm).zip vs.reverse))) al1 M1 := Stp.cold S1 hd
      exact q1 al1 _ σ _ _ st (S1.cold hd) (E1.mono S1 st) ⟨e, d, _, hk, rfl, rfl, upd_same, by rw [List.length_reverse]; exact hl, Fsr.mono S1 st _ _ (Fsr_zip r1.reverse)⟩
  · exact q1.elim
end
end G

/-! GTry -/
set_option maxRecDepth 100000
set_option maxHeartbeats 4000000
namespace L2
open PySem PySem.Spec PyProof.Rows
/-- the clauses' wishes, one after the other; each has a slot for its name -/
def wNm (K : PySem.W.Frag) (Wo : WX) (D : Ends) : List (Value × Nat × (Addr → Value → Option Addr → TE)) → WX
  | [] => Wo
  | (c, i, ts) :: r => fun cls d σ H => ∃ b, PySem.W.exmOne K cls c = some b ∧ (b = true → ∀ a, H a = none → ts a cls d (σ.set i (some (.ref a))) H D.rt) ∧ (b = false → wNm K Wo D r cls d σ H)
inductive HdN (Y : Cx) : List ExceptHandler → List (Value × Nat × (Addr → Value → Option Addr → TE)) → Prop
  | nil : HdN Y [] []
  | cons {x nm : Str} {i : Nat} {c : Value} {ts : Addr → Value → Option Addr → TE} {e : Expr} {np pr ph : Pos} {hds : List ExceptHandler} {l : List (Value × Nat × (Addr → Value → Option Addr → TE))} (hc : Names Y x c) (hi : Y.N[i]? = some nm) (hl : Y.env.kindOf nm = some .local)
      (he : ∀ (a : Addr) (oe : Obj) (cls : Value) (d : Option Addr) (pn : List (Addr × Obj)), Zc cls d oe → (∃ vs, oe.data = .fields vs) → PE (Y.suite a ((a, oe) :: pn)) e (ts a cls d)) (r : HdN Y hds l) :
      HdN Y (.ExceptHandler (some (.Name x np)) (some nm) [.Return (some e) pr] ph :: hds) ((c, i, ts) :: l)
section
variable {Y : Cx} {body : List Stmt} {hd : ExceptHandler} {hds : List ExceptHandler} {l : List (Value × Nat × (Addr → Value → Option Addr → TE))} {pos : Pos} {tb : WX → TS} {Wo : WX}
theorem ps_try_named (hs : Y.stack = Y.env :: Y.outer) (hf : Y.env.frame = some Y.env.locals) (hN : Y.N.Nodup) (tk : Takes Y Wo)
    (hb : ∀ (W : WX) (pn : List (Addr × Obj)) (xe : Value → Shared → Prop), Takes (Y.tr pn xe) W → PassesOwn (model Y.prog Y.w) Y.A Y.env xe → PSs (Y.tr pn xe) body (tb W))
    (hh : HdN Y (hd :: hds) l) : PS Y (.Try body (hd :: hds) [] [] pos) (fun D σ H => tb (wNm Y.K Wo D l) D σ H) := by
  refine ⟨fun pins s σ H D I0 h => ?_⟩
  have ok := I0.ok
  refine wpAny_Try_except ?_
  refine wpAny_mono ((hb (wNm Y.K Wo D l) (Y.pn ++ pins) (fun e s1 => wpAny (model Y.prog Y.w) Y.A (noteFrame e Y.env) (fun _ s2 => wpAny (model Y.prog Y.w) Y.A (setFlight e none) (fun _ s3 =>
    wpAny (model Y.prog Y.w) Y.A (handleBy e Y.env (hd :: hds)) (SP Y pins D) Y.xe s3) Y.xe s2) Y.xe s1) (fun u s' xx => ?_) PassesOwn.looking).run [] s σ H D (I0.toTry _) h) (fun f s1 hsp => ?_) (fun e s1 he => he)
  · obtain ⟨a, B, sI, pins', σ', H', cls, d, rfl, Jt, nb, up, sky, na, os, ag, w⟩ := xx
    have J0 : Inv Y pins σ' H' sI := Jt.ofTry ok
    have sk : Sky B (Y.env :: Y.outer) a (Zc cls d) Y.env.locals s'.heap := by rw [← hs]; exact sky
    have hfr : Y.A.frames = some (Y.env :: Y.outer) := by rw [ok.frames, hs]
    show wpAny (model Y.prog Y.w) Y.A (noteFrame (.ref a) Y.env) _ _ _
    refine Sky.land Zc.steady hfr hf sk fun h3 fl3 up3 => ?_
    have J3 : Inv Y pins σ' H' { s' with heap := h3 } := J0.landed nb fl3.1 (up.trans up3) os ag
    obtain ⟨oe3, vs3, he3, hz3, hd3⟩ := fl3.there
    have off : ∀ {h : Heap} {o : Obj} {vs : Array Value}, h.FunFrames B (Y.env :: Y.outer) → h.get? a = some o → o.data = .fields vs → a ∉ frs (Y.env :: Y.outer) := fun {h o vs} ff e dd hm => by
      obtain ⟨_, o2, e2, hnf⟩ := ff.mem hm
      rw [e] at e2; cases e2
      exact hnf _ dd
    have nfr := off fl3.2.2.1 he3 hd3
    have nL : a ≠ Y.env.locals := fun z => nfr (List.mem_filterMap.mpr ⟨Y.env, List.mem_cons_self, by rw [hf, z]⟩)
    have nF : a ∉ Y.fs := fun hm => by
      obtain ⟨e, he, q⟩ := List.mem_filterMap.mp hm
      exact nfr (List.mem_filterMap.mpr ⟨e, List.mem_cons_of_mem _ he, q⟩)
    have S3 := J3.suite he3 hd3 na nL nF
    have go : ∀ {hq : List ExceptHandler} {lq : List (Value × Nat × (Addr → Value → Option Addr → TE))}, HdN Y hq lq → wNm Y.K Wo D lq cls d σ' H' →
        wpAny (model Y.prog Y.w) Y.A (handleBy (.ref a) Y.env hq) (SP Y pins D) Y.xe { s' with heap := h3 } := by
      intro hq lq hk
      induction hk with
      | nil =>
        intro w
        refine wpAny_handleBy_nil ?_
        obtain ⟨k1, k2, k3, oe, vs, T, oT, ts', he, hz, hdt, h1, hr⟩ := id fl3
        unfold PySem.passOn
        refine wpAny_bind (wpAny_field he hdt h1 ?_)
        rw [if_neg (show ¬ ((Value.ref T == Value.none) = true) by simp)]
        have fin : wpAny (model Y.prog Y.w) Y.A (setFlight (.ref a) Y.env.frame) (fun _ s4 => wpAny (model Y.prog Y.w) Y.A (throw (.ref a) : Sem Flow) (SP Y pins D) Y.xe s4) Y.xe { s' with heap := h3 } := by
          rw [hf]
          refine HandSPX.setFlight_upZ fl3 fun h4 hh4 up4 => wpAny_throw (tk _ _ ?_)
          exact ⟨a, B, sI, pins, σ', H', cls, d, rfl, J0, nb, (up.trans up3).trans up4, .inr (.inr (by rw [hs]; exact hh4)), na, os, ag, w⟩
        first
          | exact wpAny_bind (wpAny_pure (wpAny_bind fin))
          | exact wpAny_bind fin
      | @cons x nm i c ts e np pr ph hds2 l2 hc hi hln he r ih =>
        intro w
        obtain ⟨b, hb1, hyes, hno⟩ := w
        refine wpAny_handleBy_cons (codeAny_handlers_test ?_) (by intro q; cases q)
        have LT : PySem.W.Looks (model Y.prog Y.w) h3 (typeOf (.ref a)) cls := fun A Q E s k q => wpAny_typeOf_ref (k _ _ he3) (by rw [hz3.1]; exact q)
        have LM := PySem.W.exm_one (M := model Y.prog Y.w) (J3.kIn) LT hb1
        have test : ∀ {Q : Value → Shared → Prop} {E : Value → Shared → Prop}, Q c { s' with heap := h3 } → wpAny (model Y.prog Y.w) (Y.A.mark (some (.ref a))) (eval (.Name x np) Y.env) Q E { s' with heap := h3 } := fun {Q E} q => by
          obtain ⟨hg, hdbg, hm | ⟨hm, hv, hnn⟩⟩ := hc
          · exact ld_glob (X := Y.suite a ((a, oe3) :: (Y.pn ++ pins))) S3 hg hm q hdbg
          · exact ld_blt (X := Y.suite a ((a, oe3) :: (Y.pn ++ pins))) S3 hg hm hv q hnn hdbg
        refine test (LM.here ?_)
        cases b with
        | false =>
          show wpAny _ Y.A (handleBy (.ref a) Y.env hds2) _ _ _
          exact ih (hno rfl)
        | true =>
          refine codeAny_handlers_suite_as ?_
          refine HandSPX.lands_againZ fl3 fun h4 fl4 up4 => ?_
          have J4 : Inv Y pins σ' H' { s' with heap := h4 } := J0.landed nb fl4.1 ((up.trans up3).trans up4) os ag
          obtain ⟨oe4, vs4, he4, hz4, hd4⟩ := fl4.there
          have S4 := J4.suite he4 hd4 na nL nF
          refine store_ok (X := Y.suite a ((a, oe4) :: (Y.pn ++ pins))) (v := .ref a) S4 hN hi (.inl hln) rfl (fun s5 S5 => ?_) (.inr hln)
          have hps : PSs (Y.suite a ((a, oe4) :: (Y.pn ++ pins))) [.Return (some e) pr] (tSeq (tRet (ts a cls d)) tNext) := pss_cons (ps_ret (he a oe4 cls d (Y.pn ++ pins) hz4 ⟨_, hd4⟩)) pss_nil
          refine wpAny_mono (hps.run [] s5 _ H' { nx := fun _ _ => False, rt := D.rt } S5 (hyes rfl a na)) (fun f s6 hsp => ?_) (fun _ _ z => False.elim z)
          cases f with
          | next => obtain ⟨_, _, _, z⟩ := hsp; exact z.elim
          | brk => obtain ⟨_, _, _, z⟩ := hsp; exact z.elim
          | cont => obtain ⟨_, _, _, z⟩ := hsp; exact z.elim
          | ret u =>
            obtain ⟨v6, σ6, H6, S6, r6, q6⟩ := hsp
            exact gone_ok (S6.unsuite ok) hN hi hln fun s7 J7 => ⟨_, _, _, J7, r6, q6⟩
    exact go hh w
  · cases f with
    | next =>
      obtain ⟨σ', H', J1, q⟩ := hsp
      exact wpAny_execs_nil ⟨σ', H', J1.ofTry ok, q⟩
    | brk =>
      obtain ⟨σ', H', J1, q⟩ := hsp
      exact ⟨σ', H', J1.ofTry ok, q⟩
    | cont =>
      obtain ⟨σ', H', J1, q⟩ := hsp
      exact ⟨σ', H', J1.ofTry ok, q⟩
    | ret u =>
      obtain ⟨v, σ', H', J1, r, q⟩ := hsp
      exact ⟨v, σ', H', J1.ofTry ok, r, q⟩
end
end L2
namespace G
open PySem PySem.Spec PyProof.Rows L2
theorem Envr.unset {K : PySem.W.Frag} {H : Hp} {al : Am} {M : Store} {σ : L2.St} {ρ : Rho} {x : Option V} (E : Envr K H al M σ ρ) (i : Nat) : Envr K H al M (σ.set i x) (ρ.set i none) := by
  refine ⟨by simp [E.len], fun j d e => ?_⟩
  by_cases hj : i = j
  · subst hj
    by_cases hl : i < ρ.length
    · rw [List.getElem?_set_self hl] at e; cases e
    · rw [List.getElem?_eq_none (by simpa using hl)] at e; cases e
  · rw [List.getElem?_set_ne hj] at e
    rw [List.getElem?_set_ne hj]
    exact E.at_ j d e
section
variable {Z : Gz} {n : Nat} {cx : Cx} {c : Ck} {W : WX} {pos : Pos}
/-- a handler's value: c, fs the exception's class and fields -/
def tH (Z : Gz) (i : Nat) (a : Addr) (cls : Value) (d : Option Addr) (f : Rho → List Nat → List G.D → Option G.D) : TE := fun σ H Q => ∃ al ρ M k fs e dv, Sto Z.toGx H al M ∧ Envr Z.K H al M σ ρ ∧ σ[i]? = some (some (.ref a)) ∧ Exr Z.toGy H al M k fs cls d ∧ Z.P.ers[k]? = some e ∧
  f ρ e.flds fs = some dv ∧ ∀ al' H' v, Stp H al M H' al' M → Sto Z.toGx H' al' M → Rep Z.K H' al' M dv v → Q v H'
def tHs (Z : Gz) (i : Nat) (a : Addr) (cls : Value) (d : Option Addr) (f : Rho → List Nat → List G.D → Option (List G.D)) : TA := fun σ H Q => ∃ al ρ M k fs e dv, Sto Z.toGx H al M ∧ Envr Z.K H al M σ ρ ∧ σ[i]? = some (some (.ref a)) ∧ Exr Z.toGy H al M k fs cls d ∧ Z.P.ers[k]? = some e ∧
  f ρ e.flds fs = some dv ∧ ∀ al' H' v, Stp H al M H' al' M → Sto Z.toGx H' al' M → Reps Z.K H' al' M dv v → Q v H'
mutual
/-- does a handler's value stand for a piece of syntax; i: the name's slot -/
def chkH (c : Ck) (i : Nat) : Hx → Expr → Bool
  | .non, e => match e with | .Constant .none _ _ => true | _ => false
  | .bl b, e => match e with | .Constant (.bool b') _ _ => b == b' | _ => false
  | .int i, e => match e with | .Constant (.int j) _ _ => decide (i = j) | _ => false
  | .str x, e => match e with | .Constant (.str y) _ _ => decide (x = y) | _ => false
  | .v j, e => match e with | .Name x _ => c.var j x | _ => false
  | .fld f, e => match e with | .Attribute (.Name x _) y _ => c.var i x && c.nmd f y | _ => false
  | .tup as, e => match e with | .Tuple es _ _ => chkHs c i as es | _ => false
def chkHs (c : Ck) (i : Nat) : Hxs → List Expr → Bool
  | .nil, es => match es with | [] => true | _ => false
  | .cons a r, es => match es with | e :: es => noStar e && chkH c i a e && chkHs c i r es | _ => false
end
theorem tH_c {v : V} {d0 : G.D} {i : Nat} {a : Addr} {cls : Value} {d : Option Addr} {f : Rho → List Nat → List G.D → Option G.D} {Y : Cx} {e : Expr} (h : PE Y e (tC v)) (hr : ∀ H al M, Rep Z.K H al M d0 v) (hf : ∀ ρ fl fs, f ρ fl fs = some d0) : PE Y e (tH Z i a cls d f) := h.imp fun σ H Q hh => by
  obtain ⟨al, ρ, M, k, fs, er, dv, S, E, ea, x, hk, e1, q⟩ := hh
  rw [hf] at e1; cases e1
  exact q al H v Stp.refl S (hr H al M)
theorem Exr.mono {H H' : Hp} {al al' : Am} {M M' : Store} {k : Nat} {fs : List G.D} {cls : Value} {d : Option Addr} (S : Sto Z.toGx H al M) (s : Stp H al M H' al' M') (h : Exr Z.toGy H al M k fs cls d) : Exr Z.toGy H' al' M' k fs cls d := by
  obtain ⟨e, dd, vfs, h1, h2, h3, h4, h5, h6⟩ := h
  refine ⟨e, dd, vfs, h1, h2, h3, s.keep dd _ h4 ?_, h5, Fsr.mono S s _ _ h6⟩
  intro hh
  rcases S.hot hh with ⟨_, q⟩ | ⟨_, _, _, q⟩ <;> rw [h4] at q <;> cases q
mutual
theorem sndH (g : Good Z c cx n) (i : Nat) (a : Addr) (oe : Obj) (cls : Value) (d : Option Addr) (pn : List (Addr × Obj)) (hz : Zc cls d oe) (hf : ∃ vs, oe.data = .fields vs) : ∀ (h : Hx) (e : Expr), chkH c i h e = true →
    PE (cx.suite a ((a, oe) :: pn)) e (tH Z i a cls d fun ρ fl fs => runH ρ fl fs h)
  | .non, e, h => by
    unfold chkH at h; split at h
    · exact tH_c pe_non (fun _ _ _ => by rw [Rep]) fun _ _ _ => rfl
    · cases h
  | .bl b, e, h => by
    unfold chkH at h; split at h
    · rw [beq_iff_eq] at h; subst h
      exact tH_c pe_bl (fun _ _ _ => by rw [Rep]) fun _ _ _ => rfl
    · cases h
  | .int i, e, h => by
    unfold chkH at h; split at h
    · rw [decide_eq_true_eq] at h; subst h
      exact tH_c pe_int (fun _ _ _ => by rw [Rep]) fun _ _ _ => rfl
    · cases h
  | .str x, e, h => by
    unfold chkH at h; split at h
    · rw [decide_eq_true_eq] at h; subst h
      exact tH_c pe_str (fun _ _ _ => by rw [Rep]) fun _ _ _ => rfl
    · cases h
  | .v j, e, h => by
    unfold chkH at h; split at h
    · unfold Ck.var at h
      simp only [Bool.and_eq_true, decide_eq_true_eq, Bool.not_eq_true'] at h
      obtain ⟨⟨⟨h1, h2⟩, h3⟩, h4⟩ := h
      refine (pe_var (X := cx.suite a ((a, oe) :: pn)) (by show cx.N[j]? = _; rw [g.N]; exact h1) (g.vis h2) h3 h4).imp fun σ H Q hh => ?_
      obtain ⟨al, ρ, M, k, fs, er, dv, S, E, ea, x, hk, e1, q⟩ := hh
      simp only [runH] at e1
      split at e1
      · rename_i d' e2
        cases e1
        obtain ⟨v, e3, r⟩ := E.at_ j _ e2
        exact ⟨v, e3, q al H v Stp.refl S r⟩
      · cases e1
    · cases h
  | .fld f, e, h => by
    unfold chkH at h; split at h
    · rw [Bool.and_eq_true] at h
      obtain ⟨rfl, hml⟩ := Ck.nmd_of g.P h.2
      have hv := h.1
      unfold Ck.var at hv
      simp only [Bool.and_eq_true, decide_eq_true_eq, Bool.not_eq_true'] at hv
      obtain ⟨⟨⟨h1, h2⟩, h3⟩, h4⟩ := hv
      refine ⟨fun pins s σ H Q I hh => ?_⟩
      obtain ⟨al, ρ, M, k, fs, er, dv, S, E, ea, x, hk, e1, q⟩ := hh
      obtain ⟨er', dd, vfs, k1, k2, k3, k4, k5, k6⟩ := id x
      rw [hk] at k1; cases k1
      obtain ⟨X1, X2⟩ := g.lnk.xfc k er hk
      have hfl := (g.lnk.ers k er hk).fl
      have all : ∀ p ∈ er.flds.zip fs, p.1 < Z.P.nms.length := fun p hp => hfl _ (List.of_mem_zip hp).1
      obtain ⟨G1, _⟩ := Fsr.get (X := Z.toGx) g.lnk.nms hml all k6
      have e1 : getF f (er.flds.zip fs) = some dv := e1
      obtain ⟨v, l, rv⟩ := G1 dv e1
      have hin : f ∈ er.flds := by
        have : ∀ {l : List (Nat × G.D)} {d : G.D}, getF f l = some d → ∃ y, (f, y) ∈ l := by
          intro l
          induction l with
          | nil => intro d h; simp [getF] at h
          | cons p l ih =>
            intro d h
            obtain ⟨u, w⟩ := p
            unfold getF at h
            split at h
            · rename_i q; subst q; exact ⟨w, List.mem_cons_self⟩
            · obtain ⟨y, hy⟩ := ih h; exact ⟨y, List.mem_cons_of_mem _ hy⟩
        obtain ⟨y, hy⟩ := this e1
        exact (List.of_mem_zip hy).1
      refine (pe_xf (n := Z.nm f) X1 (X2 f hin) hz hf (pe_var (X := cx.suite a ((a, oe) :: pn)) (i := i) (by show cx.N[i]? = _; rw [g.N]; exact h1) (g.vis h2) h3 h4) (okBase_of rfl)).run pins s σ H Q I ?_
      exact ⟨.ref a, ea, rfl, k2, dd, vfs, v, k3, k4, l, q al H v Stp.refl S rv⟩
    · cases h
  | .tup as, e, h => by
    unfold chkH at h; split at h
    · refine (pe_tup (sndHs g i a oe cls d pn hz hf as _ h)).imp fun σ H Q hh => ?_
      obtain ⟨al, ρ, M, k, fs, er, dv, S, E, ea, x, hk, e1, q⟩ := hh
      simp only [runH] at e1
      cases e2 : runH.runHs ρ er.flds fs as with
      | none => rw [e2] at e1; cases e1
      | some ds =>
        rw [e2, Option.bind_some] at e1
        split at e1
        case isFalse => cases e1
        rename_i hz2
        cases e1
        refine ⟨al, ρ, M, k, fs, er, ds, S, E, ea, x, hk, e2, fun al' H' vs s S' r => ⟨by rw [r.length]; exact hz2, ?_⟩⟩
        intro p hp
        refine q al' _ _ (s.trans (Stp.cold S' hp)) (S'.cold hp) ?_
        rw [Rep]
        exact ⟨p, vs, rfl, upd_same, Reps.mono S' (Stp.cold S' hp) _ _ r⟩
    · cases h
theorem sndHs (g : Good Z c cx n) (i : Nat) (a : Addr) (oe : Obj) (cls : Value) (d : Option Addr) (pn : List (Addr × Obj)) (hz : Zc cls d oe) (hf : ∃ vs, oe.data = .fields vs) : ∀ (h : Hxs) (es : List Expr), chkHs c i h es = true →
    PA (cx.suite a ((a, oe) :: pn)) es (tHs Z i a cls d fun ρ fl fs => runH.runHs ρ fl fs h)
  | .nil, es, h => by
    cases es with
    | cons _ _ => simp [chkHs] at h
    | nil =>
      refine pa_nil.imp fun σ H Q hh => ?_
      obtain ⟨al, ρ, M, k, fs, er, dv, S, E, ea, x, hk, e1, q⟩ := hh
      simp only [runH.runHs, Option.some.injEq] at e1
      subst e1
      exact q al H [] Stp.refl S .nil
  | .cons b r, es, h => by
    cases es with
    | nil => simp [chkHs] at h
    | cons e es =>
      rw [chkHs, Bool.and_eq_true, Bool.and_eq_true] at h
      refine (pa_cons (sndH g i a oe cls d pn hz hf b e h.1.2) (sndHs g i a oe cls d pn hz hf r es h.2) (starEach_cons h.1.1)).imp fun σ H Q hh => ?_
      obtain ⟨al, ρ, M, k, fs, er, dv, S, E, ea, x, hk, e1, q⟩ := hh
      simp only [runH.runHs] at e1
      cases e2 : runH ρ er.flds fs b with
      | none => rw [e2] at e1; cases e1
      | some d1 =>
        rw [e2, Option.bind_some] at e1
        cases e3 : runH.runHs ρ er.flds fs r with
        | none => rw [e3] at e1; cases e1
        | some ds =>
          rw [e3] at e1; cases e1
          refine ⟨al, ρ, M, k, fs, er, d1, S, E, ea, x, hk, e2, fun al1 H1 v s1 S1 r1 => ?_⟩
          refine ⟨al1, ρ, M, k, fs, er, ds, S1, E.mono S s1, ea, x.mono S s1, hk, e3, fun al2 H2 vs s2 S2 r2 => ?_⟩
          exact q al2 H2 _ (s1.trans s2) S2 (.cons (Rep.mono S1 s2 _ _ r1) r2)
end
/-- the clauses of a try -/
def chkHds (c : Ck) : List (Nat × Nat × Hx) → List ExceptHandler → Bool
  | [], [] => true
  | (k, i, h) :: r, .ExceptHandler (some (.Name x _)) (some nm) [.Return (some e) _] _ :: hs => (match c.P.ers[k]? with | some e => decide (e.name = x) | none => false) && c.glb x && decide (c.N[i]? = some nm) &&
      (match c.sc.names.lookup nm with | some .local => true | _ => false) && chkH c i h e && chkHds c r hs
  | _, _ => false
def lHds (Z : Gz) : List (Nat × Nat × Hx) → List (Value × Nat × (Addr → Value → Option Addr → TE))
  | [] => []
  | (k, i, h) :: r => (.ref (Z.ec k), i, fun a cls d => tH Z i a cls d fun ρ fl fs => runH ρ fl fs h) :: lHds Z r
theorem hds_ok (g : Good Z c cx n) : ∀ {l : List (Nat × Nat × Hx)} {hs : List ExceptHandler}, chkHds c l hs = true → HdN cx hs (lHds Z l)
  | [], [], _ => .nil
  | [], _ :: _, h => by cases h
  | _ :: _, [], h => by simp [chkHds] at h
  | (k, i, hx) :: r, hd :: hs, h => by
    unfold chkHds at h
    split at h
    · rename_i h1 _; cases h1
    · rename_i k' i' hx' r' x np nm e pr ph hs' h1 h2
      cases h1; cases h2
      simp only [Bool.and_eq_true, decide_eq_true_eq] at h
      obtain ⟨⟨⟨⟨⟨q1, q2⟩, q3⟩, q4⟩, q5⟩, q6⟩ := h
      split at q1
      · rename_i er ek
        rw [decide_eq_true_eq] at q1
        obtain ⟨hg, hdb⟩ := g.gl q2
        have hm := g.lnk.erm k er (by rw [← g.P]; exact ek)
        rw [q1] at hm
        have hl : cx.env.kindOf nm = some .local := by
          show cx.env.scope.names.lookup nm = _
          rw [g.sc]
          split at q4
          · assumption
          · cases q4
        exact .cons ⟨hg, hdb, .inl hm⟩ (by rw [g.N]; exact q3) hl (fun a oe cls d pn hz hf => sndH g i a oe cls d pn hz hf hx e q5) (hds_ok g q6)
      · cases q1
    · cases h
theorem hds_sem (g : Good Z c cx n) {D : Ends} {H0 : Hp} {al0 : Am} {M0 : Store} {k : Nat} {fs : List G.D} {ρ : Rho} {M : Store} : ∀ {l : List (Nat × Nat × Hx)} {hs : List ExceptHandler}, chkHds c l hs = true → PoS Z.toGy W D H0 al0 M0 (handle Z.P k fs ρ M l) →
    ∀ al' H' σ' cls dd, Stp H0 al0 M0 H' al' M → Sto Z.toGx H' al' M → Envr Z.K H' al' M σ' ρ → Exr Z.toGy H' al' M k fs cls dd → wNm cx.K W D (lHds Z l) cls dd σ' H'
  | [], hs, _, p, al', H', σ', cls, dd, s, S, E, x => p al' H' σ' cls dd s S E x
  | (k2, i, hx) :: r, [], h, _, _, _, _, _, _, _, _, _, _ => by simp [chkHds] at h
  | (k2, i, hx) :: r, hd :: hs, h, p, al', H', σ', cls, dd, s, S, E, x => by
    have h0 := h
    unfold chkHds at h
    split at h
    · rename_i h1 _; cases h1
    · rename_i k' i' hx' r' x' np nm e pr ph hs' h1 h2
      cases h1; cases h2
      simp only [Bool.and_eq_true, decide_eq_true_eq] at h
      obtain ⟨⟨⟨⟨⟨q1, q2⟩, q3⟩, q4⟩, q5⟩, q6⟩ := h
      split at q1
      · rename_i er2 ek2
        rw [g.P] at ek2
        obtain ⟨er, d, vfs, k1, k3, k4, k5, k6⟩ := id x
        rw [handle, k1] at p
        dsimp only at p
        subst k3
        refine ⟨_, g.lnk.exm k er k2 er2 k1 ek2, fun hb a ha => ?_, fun hb => ?_⟩
        · rw [if_pos hb] at p
          split at p
          case isFalse => exact p.elim
          rename_i hlen
          split at p
          · rename_i dv e1
            have hil : i < σ'.length := by rw [← E.len]; exact hlen
            refine ⟨al', ρ.set i none, M, k, fs, er, dv, S, E.unset i, by rw [List.getElem?_set_self hil], x, k1, e1, fun al2 H2 v s2 S2 r2 => p al2 H2 v (s.trans s2) S2 r2⟩
          · exact p.elim
        · rw [if_neg (by rw [hb]; simp)] at p
          exact hds_sem g q6 p al' H' σ' _ dd s S E x
      · cases q1
    · cases h
end
end G

/-! GSts -/
set_option maxRecDepth 100000
set_option maxHeartbeats 4000000
namespace G
open PySem PySem.Spec PyProof.Rows L2
section
variable {Z : Gz} {n : Nat}
/-- a context for statements -/
structure Gds (Z : Gz) (c : Ck) (cx : Cx) (n : Nat) (W : WX) : Prop where
  g : Good Z c cx n
  tk : Takes cx W
  po : PassesOwn (model cx.prog cx.w) cx.A cx.env cx.xe
  st : cx.stack = cx.env :: cx.outer
  fr : cx.env.frame = some cx.env.locals
  kd : c.sc.kind = .function
theorem Gds.tr {c : Ck} {cx : Cx} {W W' : WX} {pn : List (Addr × Obj)} {xe : Value → Shared → Prop} (q : Gds Z c cx n W) (tk : Takes (cx.tr pn xe) W') (po : PassesOwn (model cx.prog cx.w) cx.A cx.env xe) : Gds Z c (cx.tr pn xe) n W' :=
  ⟨⟨q.g.lnk.of rfl rfl rfl rfl rfl, q.g.P, q.g.sc, q.g.N, q.g.nd, q.g.fn, q.g.calm, q.g.room⟩, tk, po, q.st, q.fr, q.kd⟩
theorem z_tr {c : Ck} {cx : Cx} {W : WX} {b : Sms} {l : List (Nat × Nat × Hx)} {body : List Stmt} {hd : ExceptHandler} {hs : List ExceptHandler} {pos : Pos} (q : Gds Z c cx n W) (hl : chkHds c l (hd :: hs) = true)
    (hb : ∀ (cx' : Cx) (W' : WX), Gds Z c cx' n W' → PSsz Z n cx' W' b body) : PSz Z n cx W (.tr b l) (.Try body (hd :: hs) [] [] pos) := by
  refine (ps_try_named (tb := fun W' => tS Z.toGy W' (rnSs Z n b)) q.st q.fr (by rw [q.g.N]; exact q.g.nd) q.tk (fun W' pn xe tk po => hb _ _ (q.tr tk po)) (hds_ok q.g hl)).imp fun D σ H h => ?_
  unfold rnS at h; simp only [runS] at h
  obtain ⟨al, ρ, M, S, E, p⟩ := h
  refine ⟨al, ρ, M, S, E, ?_⟩
  show PoS _ _ _ _ _ _ (runSs Z.P Z.wf (callF Z.P Z.wf n) b ρ M)
  dsimp only at p
  revert p
  match runSs Z.P Z.wf (callF Z.P Z.wf n) b ρ M with
  | some (.nx ρ2, M2) => exact fun p => p
  | some (.ct ρ2, M2) => exact fun p => p
  | some (.bk ρ2, M2) => exact fun p => p
  | some (.rt d, M2) => exact fun p => p
  | some (.er c fs ρ2, M2) => exact fun p => hds_sem q.g hl p
  | none => exact fun p => p
theorem z_setLc {cx : Cx} {c : Ck} {W : WX} {i : Nat} {y : Str} {py : Pos} {hot : Bool} {gp : Gp} {it : Ip} {t : Tps} {e : Xp} {elt tg iter : Expr} {ifs : List Expr} {scope : Scope} {pos spos : Pos} (g : Good Z c cx n) (hy : c.N[i]? = some y) (hyl : cx.env.scope.names.lookup y = some .local)
    (hsw : swapsWith (.ListComp elt [⟨tg, iter, ifs, 0⟩] scope pos) (some (.Name y py)) spos.line cx.env = pure true) (hi : PI cx tg iter (tI Z W (rnI Z n it))) (hb : blkC cx.N cx.env.scope scope (ownOf c gp) = true)
    (hg : ∀ (s : Shared) (H : Hp) (C : Addr) (cl : List (Str × Addr)) (fp : List Addr), PG (cx.blk s H scope (compEnvC scope cl C cx.env) fp) tg (tGp Z gp))
    (ht : ∀ (s : Shared) (H : Hp) (C : Addr) (cl : List (Str × Addr)) (fp : List Addr), PTs (cx.blk s H scope (compEnvC scope cl C cx.env) fp) ifs (tT Z.toGy WF (rnTs Z n t)))
    (he : ∀ (s : Shared) (H : Hp) (C : Addr) (cl : List (Str × Addr)) (fp : List Addr), PE (cx.blk s H scope (compEnvC scope cl C cx.env) fp) elt (tE Z.toGy WF (rnE Z n e)))
    (hs : ∀ x, foldedSetIterable iter cx.env x = pure x) :
    PSz Z n cx W (.asg (.n i) (.lc hot gp it t e)) (.Assign [.Name y py] (.ListComp elt [⟨tg, iter, ifs, 0⟩] scope pos) spos) :=
  (ps_setLc (spos := spos) g.calm (by rw [g.N]; exact g.nd) (by rw [g.N]; exact hy) hyl hsw hi (blkOk_by hb) hg ht he hs).imp fun D σ H h => by
    refine lc_sem ((asg_sem h).mono fun x H1 hh => ?_)
    obtain ⟨al, ρ, M, d, ρ', S, E, r, e1, k⟩ := hh
    simp only [bindG, Option.some.injEq] at e1
    subst e1
    exact k _ (E.set r i) (wipe_set List.mem_cons_self)

def isLc : Xp → Bool | .lc .. => true | _ => false
/-- a name set by a comprehension on its own line -/
def lcOk (c : Ck) (x : Str) (px : Pos) : Expr → Bool
  | .ListComp _ _ scope vpos => (match c.sc.names.lookup x with | some .local => true | _ => false) && (px.line == vpos.line) && !(scope.names.any fun (n, k) => n == x && (k == .local || k == .cell))
  | _ => false
def asgOk (c : Ck) (e : Xp) : Expr → Expr → Bool
  | .Name x px, v => noComp v || (match c.sc.names.lookup x with | some .local => false | _ => true) || (isLc e && lcOk c x px v)
  | .Tuple .., v => noTup v
  | _, _ => false
mutual
def chkS (c : Ck) : Sm → Stmt → Bool
  | .asg g e, s => match s with | .Assign [tg] v _ => chkG c g tg && chkE c e v && asgOk c e tg v | _ => false
  | .asgF o f e, s => match s with | .Assign [.Attribute l x _] v _ => c.nmd f x && chkE c o l && chkE c e v | _ => false
  | .asgI o i e, s => match s with | .Assign [.Subscript l r _] v _ => chkE c o l && chkE c i r && chkE c e v | _ => false
  | .aug i op e, s => match s with | .AugAssign (.Name x _) op' v _ => c.tgt i x && (decide (op = .add) || decide (op = .sub)) && decide (op' = astB op) && chkE c e v | _ => false
  | .augI o i op e, s => match s with | .AugAssign (.Subscript l r _) op' v _ => (decide (op = .add) || decide (op = .sub)) && decide (op' = astB op) && chkE c o l && chkE c i r && chkE c e v | _ => false
  | .ex e, s => match s with | .Expr v _ => noComp v && chkE c e v | _ => false
  | .ite t a b, s => match s with | .If q xs ys _ => chkT c t q && chkSs c a xs && chkSs c b ys | _ => false
  | .fo g it b, s => match s with | .For tg iter body [] _ => chkI c it iter && chkG c g tg && chkSs c b body | _ => false
  | .whl t b, s => match s with | .While q body [] _ => chkT c t q && chkSs c b body | _ => false
  | .ret e, s => match s with | .Return (some v) _ => chkE c e v | _ => false
  | .retN, s => match s with | .Return none _ => true | _ => false
  | .rais k as, s => match s with
    | .Raise (some (.Call (.Name x _) es [] _)) none _ => (match c.P.ers[k]? with | some e => decide (e.name = x) | none => false) && c.glb x && !es.isEmpty && chkA c as es
    | _ => false
  | .brk, s => match s with | .Break _ => true | _ => false
  | .ctn, s => match s with | .Continue _ => true | _ => false
  | .pass, s => match s with | .Pass _ => true | _ => false
  | .par i j a b, s => match s with
    | .Assign [.Tuple [.Name x px, .Name y py] _ _] (.Tuple [e, e'] _ _) _ => decide (i ≠ j) && decide (c.N[i]? = some x) && decide (c.N[j]? = some y) && parB c x y px py e e' && chkE c a e && chkE c b e'
    | _ => false
  | .nev, _ => true
  | .tr b l, s => match s with | .Try body (h :: hs) [] [] _ => chkHds c l (h :: hs) && chkSs c b body | _ => false
def chkSs (c : Ck) : Sms → List Stmt → Bool
  | .nil, ss => match ss with | [] => true | _ => false
  | .cons a r, ss => match ss with | s :: ss => chkS c a s && chkSs c r ss | _ => false
end
theorem tgt_plain {gp : Gp} {c : Ck} {tg : Expr} (h : chkG c gp tg = true) : noStar tg = true := by
  cases gp <;> cases tg <;> first | rfl | cases h
theorem z_asgs {cx : Cx} {c : Ck} {W : WX} {gp : Gp} {e : Xp} {tg v : Expr} {pos : Pos} (q : Gds Z c cx n W) (h1 : chkG c gp tg = true) (h2 : chkE c e v = true) (h3 : asgOk c e tg v = true) : PSz Z n cx W (.asg gp e) (.Assign [tg] v pos) := by
  have hg := z_tgt q.g h1
  have hv := sndE e c cx W v q.g q.tk h2
  have hst := tgt_plain h1
  cases tg with
  | Name x px =>
    have h3 : (noComp v || (match c.sc.names.lookup x with | some .local => false | _ => true) || (isLc e && lcOk c x px v)) = true := h3
    rw [Bool.or_eq_true, Bool.or_eq_true] at h3
    rcases h3 with (h3 | h3) | h3
    · exact z_asg hg hv (show swapsWith v (some (.Name x px)) pos.line cx.env = pure false from noComp_of h3) (swapped_other rfl) hst
    · refine z_asg hg hv (show swapsWith v (some (.Name x px)) pos.line cx.env = pure false from sw_cell ?_) (swapped_other rfl) hst
      intro hl
      have hl : cx.env.scope.names.lookup x = some .local := hl
      rw [q.g.sc] at hl
      rw [hl] at h3
      cases h3
    · rw [Bool.and_eq_true] at h3
      cases e with
      | lc hot g2 it t a =>
        unfold chkE at h2
        split at h2
        · rename_i elt tg2 iter ifs scope vpos
          have h4 := h3.2
          unfold lcOk at h4
          simp only [Bool.and_eq_true, Bool.not_eq_true'] at h4
          obtain ⟨⟨k1, k2⟩, k3⟩ := h4
          simp only [Bool.and_eq_true] at h2
          obtain ⟨⟨⟨⟨m1, m2⟩, m3⟩, m4⟩, m5⟩ := h2
          have hl : cx.env.scope.names.lookup x = some .local := by
            rw [q.g.sc]
            split at k1
            · assumption
            · cases k1
          cases gp with
          | t _ => cases h1
          | n i =>
            obtain ⟨t1, _, _⟩ := Ck.tgt_of q.g (show c.tgt i x = true from h1)
            rw [q.g.N] at t1
            exact z_setLc q.g t1 hl (sw_true (by rw [q.g.sc]; exact q.kd) hl k2 k3) (sndI it c cx W _ _ q.g q.tk m1) (by rw [q.g.N, q.g.sc]; exact m2) (fun s H C cl fp => z_tgt (q.g.blk s H _ C cl fp) m3)
              (fun s H C cl fp => sndIfs t _ _ WF _ (q.g.blk s H _ C cl fp) takesF m4) (fun s H C cl fp => sndE a _ _ WF _ (q.g.blk s H _ C cl fp) takesF m5) (sndI_fold it c _ m1)
        · cases h2
      | _ => cases h3.1
  | Tuple es k p => exact z_asg hg hv (sw_other rfl) (swapped_of h3) hst
  | _ => cases h3
mutual
theorem sndS : ∀ (x : Sm) (c : Ck) (cx : Cx) (W : WX) (s : Stmt), Gds Z c cx n W → chkS c x s = true → PSz Z n cx W x s
  | .asg gp e, c, cx, W, s, q, h => by
    unfold chkS at h; split at h
    · simp only [Bool.and_eq_true] at h
      exact z_asgs q h.1.1 h.1.2 h.2
    · cases h
  | .asgF o f e, c, cx, W, s, q, h => by
    unfold chkS at h; split at h
    · simp only [Bool.and_eq_true] at h
      exact z_asgF q.g h.1.1 (sndE o c cx W _ q.g q.tk h.1.2) (sndE e c cx W _ q.g q.tk h.2)
    · cases h
  | .asgI o i e, c, cx, W, s, q, h => by
    unfold chkS at h; split at h
    · simp only [Bool.and_eq_true] at h
      exact z_asgI q.g (plainX_slice (chk_plain _ _ h.1.2)) (sndE o c cx W _ q.g q.tk h.1.1) (sndE i c cx W _ q.g q.tk h.1.2) (sndE e c cx W _ q.g q.tk h.2)
    · cases h
  | .aug i op e, c, cx, W, s, q, h => by
    unfold chkS at h; split at h
    · simp only [Bool.and_eq_true, Bool.or_eq_true, decide_eq_true_eq] at h
      obtain ⟨⟨⟨h1, h2⟩, rfl⟩, h4⟩ := h
      exact z_aug q.g h1 h2 (sndE e c cx W _ q.g q.tk h4)
    · cases h
  | .augI o i op e, c, cx, W, s, q, h => by
    unfold chkS at h; split at h
    · simp only [Bool.and_eq_true, Bool.or_eq_true, decide_eq_true_eq] at h
      obtain ⟨⟨⟨⟨h1, rfl⟩, h3⟩, h4⟩, h5⟩ := h
      exact z_augI q.g (plainX_slice (chk_plain _ _ h4)) h1 (sndE o c cx W _ q.g q.tk h3) (sndE i c cx W _ q.g q.tk h4) (sndE e c cx W _ q.g q.tk h5)
    · cases h
  | .ex e, c, cx, W, s, q, h => by
    unfold chkS at h; split at h
    · rw [Bool.and_eq_true] at h
      exact z_ex h.1 (sndE e c cx W _ q.g q.tk h.2)
    · cases h
  | .ite t a b, c, cx, W, s, q, h => by
    unfold chkS at h; split at h
    · simp only [Bool.and_eq_true] at h
      exact z_ite (sndT t c cx W _ q.g q.tk h.1.1) (sndSs a c cx W _ q h.1.2) (sndSs b c cx W _ q h.2)
    · cases h
  | .fo gp it b, c, cx, W, s, q, h => by
    unfold chkS at h; split at h
    · simp only [Bool.and_eq_true] at h
      exact z_fo q.g q.po (sndI it c cx W _ _ q.g q.tk h.1.1) (z_tgt q.g h.1.2) (sndSs b c cx W _ q h.2) (sndI_fold it c _ h.1.1)
    · cases h
  | .whl t b, c, cx, W, s, q, h => by
    unfold chkS at h; split at h
    · simp only [Bool.and_eq_true] at h
      exact z_whl q.po (sndT t c cx W _ q.g q.tk h.1) (sndSs b c cx W _ q h.2)
    · cases h
  | .ret e, c, cx, W, s, q, h => by
    unfold chkS at h; split at h
    · exact z_ret (sndE e c cx W _ q.g q.tk h)
    · cases h
  | .retN, c, cx, W, s, q, h => by
    unfold chkS at h; split at h
    · exact z_retN
    · cases h
  | .rais k as, c, cx, W, s, q, h => by
    unfold chkS at h; split at h
    · rename_i x p es p2 pos
      simp only [Bool.and_eq_true] at h
      obtain ⟨⟨⟨h1, h2⟩, h3⟩, h4⟩ := h
      split at h1
      · rename_i er ek
        rw [decide_eq_true_eq] at h1
        cases es with
        | nil => cases h3
        | cons a es => exact z_rais q.g q.tk (by rw [← q.g.P]; exact ek) h1 h2 (chkA_star _ _ h4) (sndA as c cx W _ q.g q.tk h4)
      · cases h1
    · cases h
  | .brk, c, cx, W, s, q, h => by
    unfold chkS at h; split at h
    · exact z_brk
    · cases h
  | .ctn, c, cx, W, s, q, h => by
    unfold chkS at h; split at h
    · exact z_ctn
    · cases h
  | .pass, c, cx, W, s, q, h => by
    unfold chkS at h; split at h
    · exact z_pass
    · cases h
  | .par i j a b, c, cx, W, s, q, h => by
    unfold chkS at h; split at h
    · simp only [Bool.and_eq_true, decide_eq_true_eq] at h
      obtain ⟨⟨⟨⟨⟨h1, h2⟩, h3⟩, h4⟩, h5⟩, h6⟩ := h
      exact z_par q.g q.kd h1 h2 h3 h4 (sndE a c cx W _ q.g q.tk h5) (sndE b c cx W _ q.g q.tk h6)
    · cases h
  | .nev, c, cx, W, s, q, h => z_nev
  | .tr b l, c, cx, W, s, q, h => by
    unfold chkS at h; split at h
    · rw [Bool.and_eq_true] at h
      exact z_tr q h.1 fun cx' W' q' => sndSs b c cx' W' _ q' h.2
    · cases h
theorem sndSs : ∀ (x : Sms) (c : Ck) (cx : Cx) (W : WX) (ss : List Stmt), Gds Z c cx n W → chkSs c x ss = true → PSsz Z n cx W x ss
  | .nil, c, cx, W, ss, q, h => by
    cases ss with
    | nil => exact z_nilS
    | cons _ _ => simp [chkSs] at h
  | .cons a r, c, cx, W, ss, q, h => by
    cases ss with
    | nil => simp [chkSs] at h
    | cons s ss =>
      rw [chkSs, Bool.and_eq_true] at h
      exact z_consS (sndS a c cx W _ q h.1) (sndSs r c cx W _ q h.2)
end
end
end G

/-! GFun -/
set_option maxRecDepth 100000
set_option maxHeartbeats 4000000
namespace G
open PySem PySem.Spec PyProof.Rows L2
section
variable {Z : Gz} {P : Program} {w : World} {mg : Str → Option Value} {base : Heap}
theorem finish_ok {X : Gy} {H : Hp} {al : Am} {M : Store} {tr : Bool} {o : Out} {Q : VK} {E : XK} {σ : L2.St} (S : Sto X.toGx H al M) (p : Po X (rE X) (fun cls d _ H' => E cls d H') σ H al M Q (finish tr M o)) :
    PoS X (fun cls d _ H' => E cls d H') { nx := fun _ H' => Q .non H', rt := Q } H al M o := by
  revert p
  match o with
  | some (.nx ρ2, M2) =>
    intro p al2 H2 σ2 s2 S2 E2
    simp only [finish] at p
    split at p
    · rename_i c
      obtain ⟨a1, a2, a3⟩ := cut_ok S s2 S2 c.2.2
      exact p al H2 .non a1 a2 non_rep
    · exact p al2 H2 .non s2 S2 non_rep
  | some (.rt d, M2) =>
    intro p al2 H2 v s2 S2 r2
    simp only [finish] at p
    split at p
    · rename_i c
      obtain ⟨a1, a2, a3⟩ := cut_ok S s2 S2 c.2.2
      exact p al H2 v a1 a2 (a3 d v c.2.1 r2)
    · exact p al2 H2 v s2 S2 r2
  | some (.ct ρ2, M2) => exact fun p => p.elim
  | some (.bk ρ2, M2) => exact fun p => p.elim
  | some (.er c fs ρ2, M2) => exact fun p al2 H2 σ2 cls dd s2 S2 E2 x => p al2 H2 cls dd s2 S2 x
  | none => exact fun p => p
theorem start_env {K : PySem.W.Frag} {H : Hp} {al : Am} {M : Store} {ds : List G.D} {vs : List V} {N : List Str} (r : Reps K H al M ds vs) : Envr K H al M (L2.start N vs) (ds.map some ++ List.replicate (N.length - ds.length) none) := by
  have hl := r.length
  unfold L2.start
  rw [hl]
  refine ⟨by simp [hl], fun i d e => ?_⟩
  by_cases hi : i < ds.length
  · rw [List.getElem?_append_left (by simpa using hi), List.getElem?_map] at e
    cases q : ds[i]? with
    | none => rw [q] at e; cases e
    | some d' =>
      rw [q] at e; cases e
      obtain ⟨v, hv, rv⟩ := r.get q
      refine ⟨v, ?_, rv⟩
      rw [List.getElem?_append_left (by simpa [hl] using hi), List.getElem?_map, hv]; rfl
  · rw [List.getElem?_append_right (by simpa using Nat.le_of_not_lt hi), List.getElem?_replicate] at e
    split at e <;> cases e
/-- what is known of a def -/
structure DefG (Z : Gz) (mg : Str → Option Value) (f : Nat) (k : Fn) (st : Stmt) (fd : FuncData) : Prop where
  F : Fun Z.K k.name k.qual st (Z.fa f) fd
  S : FnScope k.names (k.names.take k.np) (defScope st)
  np : k.np ≤ k.names.length
  chk : chkSs ⟨Z.P, defScope st, k.names, fun _ => true⟩ k.body (defBody st) = true
  bd : Binds Z.K fd (k.names.take k.np) []
  gl : k.glob = true → mg k.name = some (.ref (Z.fa f))
/-- .. of an exception -/
structure ErrG (Z : Gz) (P : Program) (w : World) (mg : Str → Option Value) (base : Heap) (k : Nat) (e : Er) : Prop where
  cl : OexC Z.K (Z.ec k)
  init : ∃ (fI : Addr) (fd : FuncData) (ps : List Str), PySem.W.findIn Z.K (.ref (Z.ec k)) "__init__" = some (some (.ref fI)) ∧ PySem.W.typeIn Z.K (.ref fI) = some (.type "function") ∧ FnOk P w Z.K mg base (L2.CX P w) 1 fI fd ps (spX Z k e) ∧ Binds Z.K fd ps []
  fl : ∀ f ∈ e.flds, f < Z.P.nms.length
  ne : e.flds ≠ []
  few : e.flds.length ≤ 900
  nm : mg e.name = some (.ref (Z.ec k))
  xf : XfC Z.K (Z.ec k) ∧ ∀ f ∈ e.flds, PySem.W.findIn Z.K (.ref (Z.ec k)) (Z.nm f) = some none
/-- .. of the whole text -/
structure TxtG (Z : Gz) (P : Program) (w : World) (mg : Str → Option Value) (base : Heap) : Prop where
  df : ∀ f k, Z.P.fns[f]? = some k → ∃ st fd, DefG Z mg f k st fd
  blt : ∀ x ∈ blts, mg x = none
  clm : ∀ c k, Z.P.cls[c]? = some k → mg k.name = some (.ref (Z.cl c)) ∧ Cls Z.K (Z.cl c) ∧ Mk Z.K (Z.cl c) (Z.fa k.init) ∧ (∃ j, Z.P.fns[k.init]? = some j) ∧
    (∀ m g, findM m k.meths = some g → Meth Z.K (Z.cl c) (Z.nm m) (Z.fa g) ∧ ∃ j, Z.P.fns[g]? = some j) ∧ ∀ f ∈ k.flds, NoAttr Z.K (Z.cl c) (Z.nm f)
  er : ∀ k e, Z.P.ers[k]? = some e → ErrG Z P w mg base k e
  exm : ∀ c e k e', Z.P.ers[c]? = some e → Z.P.ers[k]? = some e' → PySem.W.exmOne Z.K (.ref (Z.ec c)) (.ref (Z.ec k)) = some (e.ups.contains k)
  nms : Z.P.nms.Nodup
theorem fn_all (T : TxtG Z P w mg base) : ∀ (n f : Nat) (k : Fn) (st : Stmt) (fd : FuncData), Z.P.fns[f]? = some k → DefG Z mg f k st fd → FnOk P w Z.K mg base (L2.CX P w) (2 * n + 1) (Z.fa f) fd (k.names.take k.np) (spR Z n f)
  | 0, f, k, st, fd, hf, D => by
    refine ⟨fun vs H Q E h => ?_, fun A outer s H args us vs Q E hr he hb hv h => ?_⟩ <;>
    · obtain ⟨al, M, ds, S, r, p⟩ := h
      exact p.elim
  | n + 1, f, k, st, fd, hf, D => by
    have ih := fn_all T n
    refine (Fun.okX (k := 2 * n + 2) D.F D.S (fun vs H Q E h => ?_) fun cdv A outer s H vs Q E hr h => ?_).mono (by omega)
    · obtain ⟨al, M, ds, S, r, p⟩ := h
      rw [callF, hf] at p
      dsimp only at p
      split at p
      · rename_i hl
        rw [r.length, hl, List.length_take]
        have := D.np
        omega
      · exact p.elim
    · obtain ⟨al, M, ds, S, r, p⟩ := h
      rw [callF, hf] at p
      dsimp only at p
      split at p
      · rename_i hl
        refine ⟨tS Z.toGy (fun cls d _ H' => E cls d H') (rnSs Z n k.body), ?_, al, _, M, S, start_env (N := k.names) r, ?_⟩
        · refine sndSs k.body ⟨Z.P, defScope st, k.names, fun _ => true⟩ _ _ _ ⟨⟨⟨rfl, fun g j hg => ?_, fun g j hg hgl => ?_, T.blt, fun c j hc => (T.clm c j hc).1, fun c j hc => (T.clm c j hc).2.1, fun c j hc => ⟨(T.clm c j hc).2.2.1, (T.clm c j hc).2.2.2.1⟩,
            fun c j m g hc hm => (T.clm c j hc).2.2.2.2.1 m g hm, fun c e hc => ?_, fun c e hc => (T.er c e hc).nm, T.exm, fun c e hc => (T.er c e hc).xf, fun c j f hc hf => (T.clm c j hc).2.2.2.2.2 f hf, T.nms⟩, rfl, rfl, rfl, D.S.nd, rfl, rfl, hr⟩, ?_, ?_, rfl, rfl, D.S.kind⟩ D.chk
          · obtain ⟨st', fd', D'⟩ := T.df g j hg
            exact ⟨⟨fd', _, ih g j st' fd' hg D', D'.bd⟩, D'.F.kp⟩
          · obtain ⟨st', fd', D'⟩ := T.df g j hg
            exact D'.gl hgl
          · have e1 := T.er c e hc
            obtain ⟨fI, fd', ps, i1, i2, i3, i4⟩ := e1.init
            exact ⟨⟨e1.cl, fI, fd', ps, i1, i2, i3.mono (by omega), i4⟩, e1.fl, e1.ne, e1.few⟩
          · exact takes_of rfl rfl rfl rfl
          · exact passes_of rfl
        · rw [← hl] at p
          exact finish_ok S p
      · exact p.elim
end
end G

/-! GInit -/
set_option maxRecDepth 100000
set_option maxHeartbeats 4000000
namespace G
open PySem PySem.Spec PyProof.Rows L2

theorem lookup_mem {α : Type} : ∀ {l : List (Str × α)} {x : Str} {u : α}, (l.map (·.1)).Nodup → (x, u) ∈ l → l.lookup x = some u
  | [], x, u, _, h => by cases h
  | (y, w) :: l, x, u, hn, h => by
    rw [List.map_cons, List.nodup_cons] at hn
    rcases List.mem_cons.mp h with e | hm
    · cases e; simp [List.lookup]
    · have hne : ¬ x = y := by
        rintro rfl
        exact hn.1 (List.mem_map.mpr ⟨(x, u), hm, rfl⟩)
      have hb : (x == y) = false := beq_eq_false_iff_ne.mpr hne
      simp only [List.lookup, hb]
      exact lookup_mem hn.2 hm
theorem zip_mem {α β : Type} : ∀ {l : List α} {r : List β} {i : Nat} {a : α} {b : β}, l[i]? = some a → r[i]? = some b → (a, b) ∈ l.zip r
  | [], _, _, _, _, h, _ => by simp at h
  | _ :: _, [], _, _, _, _, h => by simp at h
  | x :: l, y :: r, 0, a, b, h, k => by simp at h k; subst h k; simp
  | x :: l, y :: r, i + 1, a, b, h, k => by
    rw [List.zip_cons_cons]
    exact List.mem_cons_of_mem _ (zip_mem (by simpa using h) (by simpa using k))

/-- the context of such a body -/
def cxI (P : Program) (w : World) (K : PySem.W.Frag) (mg : Str → Option Value) (base : Heap) (N : List Str) (qual : Str) (scope : Scope) (f : Addr) (cd : Value) (cc : Addr) (A : Around) (outer : List Env) (s : Shared) (H : Hp) : Cx where
  prog := P
  w := w
  K := K
  mg := mg
  base := base
  A := A.deeper (PySem.W.ksEnv qual scope s.heap.objs.size f cd cc)
  N := N
  s_0 := s
  H_0 := H
  env := PySem.W.ksEnv qual scope s.heap.objs.size f cd cc
  outer := outer
  stack := PySem.W.ksEnv qual scope s.heap.objs.size f cd cc :: outer
  ex := []
  calm := true
  fn := fun _ => false
  pn := []
  xe := fun _ _ => False
/-- what the written part says of it -/
structure SupG (K : PySem.W.Frag) (P : Program) (mg : Str → Option Value) (C f cda cc : Addr) (qual : Str) (scope : Scope) (fd : FuncData) : Prop where
  fn : ∃ (oc : Value) (od : Option Addr) (osl : Array (Option Value)), K.lookup f = some ⟨oc, od, .func fd, osl⟩
  cd : PySem.W.codeIn K (.ref cda) qual = true
  code : ∃ (ccl : Value) (cdd : Option Addr) (vs : Array Value) (ccs : Array (Option Value)) (file : Str) (tf : Tok), K.lookup cda = some ⟨ccl, cdd, .fields vs, ccs⟩ ∧ vs[2]? = some (.str file tf) ∧ (P.main.file == file) = true
  cell : ∃ (cl : Value) (cld : Option Addr) (csl : Array (Option Value)), K.lookup cc = some ⟨cl, cld, .cell (some (.ref C)), csl⟩
  ini : ∃ cdt, PySem.W.clsIn K C = some cdt ∧ PySem.W.alongIn K "__init__" ((cdt.mro.dropWhile (· != .ref C)).drop 1) = some (some (.builtin "ValueError.__init__"))
  self : PySem.W.mroIn K C (.ref C) = some true
  opq : PySem.W.nsIn K cStatics "thirdparty.any" = some none
  sub : PySem.W.subIn K (.ref C) (.type "ValueError") = some true
  sup : mg "super" = none
  top : (P.main.scope.names.lookup ("super" : Str)).isSome = false
/-- .. and its scope -/
structure SupS (N ps : List Str) (sc : Scope) : Prop where
  kind : sc.kind = .function
  co : sc.isCoroutine = false
  gen : sc.isGenerator = false
  nd : N.Nodup
  pre : N.take ps.length = ps
  par : ∀ x ∈ ps, sc.names.lookup x = some .local
  nocell : ∀ y ∈ sc.names, y.2 ≠ .cell
  free : ∀ y, sc.names.lookup y = some .free → y = "__class__"
  cls : sc.names.lookup ("__class__" : Str) = some .free
  sup : sc.names.lookup ("super" : Str) = some .globalImplicit
section
variable {P : Program} {w : World} {K : PySem.W.Frag} {mg : Str → Option Value} {base : Heap}
theorem inv_sup {C f cda cc : Addr} {qual : Str} {scope : Scope} {fd : FuncData} {N ps : List Str} {A : Around} {outer : List Env} {s : Shared} {H : Hp} {us : List Value} {vs : List V} {h1 : Heap} {tk : Nat} (G0 : SupG K P mg C f cda cc qual scope fd) (S : SupS N ps scope) (hd : A.handled = none)
    (e0 : Env0 P w K mg base A outer s H) (hl : vs.length = ps.length) (r : Vals vs us) (hns : h1.Ns s.heap.objs.size (fun x => (ps.zip us).reverse.lookup x)) (hk : ∀ b o, s.heap.get? b = some o → h1.get? b = some o) :
    Inv (cxI P w K mg base N qual scope f (.ref cda) cc A outer s H) [] (L2.start N vs) H { s with heap := h1, toks := tk } := by
  have hpl : ps.length ≤ N.length := by have := congrArg List.length S.pre; rw [List.length_take] at this; omega
  obtain ⟨cl, cld, csl, hcell⟩ := G0.cell
  have hcb := e0.mod.kin _ _ hcell
  obtain ⟨hcs, hcH⟩ := e0.bs _ _ hcb
  have one : ∀ {x : Str} {c : Addr}, ([("__class__", cc)] : List (Str × Addr)).lookup x = some c → x = "__class__" ∧ c = cc := by
    intro x c h
    by_cases hx : x = "__class__"
    · subst hx; simp [List.lookup] at h; exact ⟨rfl, h.symm⟩
    · have hb : (x == ("__class__" : Str)) = false := beq_eq_false_iff_ne.mpr hx
      simp only [List.lookup, hb] at h; cases h
  refine ⟨⟨e0.mod, S.kind, rfl, rfl, Nat.le_refl _, fun y z c a b => ?_, fun y hy => ?_, fun y c z _ => ?_, fun _ => hd, Around.frames_deeper e0.frames, .inr ⟨rfl, rfl⟩, fun b z => ?_, e0.bs, e0.bsz, fun b _ _ z => ?_, fun b z => ?_, e0.funs, e0.frf⟩,
    rfl, e0.bare, Un.kept hk, ⟨_, hns, fun i y v a b c => ?_⟩, fun y c h => ?_, e0.hok.fresh (Nat.le_refl _), fun y c h => ?_, fun p hp => ?_, e0.hok.kept hk, ?_⟩
  · rw [(one a).1, (one b).1]
  · rcases hy with hy | hy
    · exact absurd rfl (S.nocell _ (PySem.mem_of_lookup hy))
    · have := S.free y hy
      subst this
      exact ⟨cc, rfl⟩
  · cases z
  · cases z
  · cases z
  · cases z
  · have hi : i < vs.length := by
      unfold L2.start at b
      by_cases hi : i < vs.length
      · exact hi
      · rw [List.getElem?_append_right (by simpa using hi), List.getElem?_replicate] at b
        split at b <;> cases b
    have ha : vs[i]? = some v := by
      unfold L2.start at b
      rw [List.getElem?_append_left (by simpa using hi), List.getElem?_map] at b
      cases e : vs[i]? with
      | none => rw [e] at b; cases b
      | some a => rw [e] at b; cases b; rfl
    obtain ⟨u, hu, rv⟩ := r.get ha
    have hp : ps[i]? = some y := by rw [← S.pre, List.getElem?_take_of_lt (by omega)]; exact a
    have ndP : ps.Nodup := by rw [← S.pre]; exact S.nd.sublist (List.take_sublist _ _)
    have hul : us.length = ps.length := by rw [← hl, r.length]
    refine ⟨u, rv, .inl ⟨S.par y (List.mem_of_getElem? hp), ?_⟩⟩
    refine lookup_mem ?_ (List.mem_reverse.mpr (zip_mem hp hu))
    rw [List.map_reverse]
    refine List.pairwise_reverse.mpr (List.Pairwise.imp (fun h => Ne.symm h) ?_)
    rw [List.map_fst_zip (by omega)]
    exact ndP
  · obtain ⟨rfl, rfl⟩ := one h
    exact ⟨_, _, hk _ _ hcs, rfl⟩
  · obtain ⟨rfl, rfl⟩ := one h
    exact hcH
  · cases hp
  · unfold L2.start
    show (vs.map some ++ List.replicate (N.length - vs.length) none).length = N.length
    rw [List.length_append, List.length_map, List.length_replicate]
    omega
end
section
variable {prog : Program} {w : World} {A : Around} {E : Value → Shared → Prop} {h : Heap} {g : Array GenState} {d : Drawn} {tk : Nat} {os : OsState}
theorem call_mw {nm q : Str} {C N x u t0 : Addr} {bs bm bmB : List Value} {hdct : Bool} {sn : List Str} {sub : List Value} {ab : Bool} {col : Option Bool} {dd : Option Addr} {k0 k1 k2 k3 k5 : Option Value} {B newId i : String} {rest : List Value} {Q : Value → Shared → Prop}
    (FB : ExcBaseFacts B newId i bmB) (hC : h.get? C = some (excClassObj nm q C N bs bm hdct sn sub ab col dd k0 k1 k2 k3 k5 newId)) (he : h.get? x = some (HandSPX.excO C t0)) (hu : h.get? u = some (PySem.W.kxs_mw i x)) (hz : rest.length ≤ sizeLine)
    (hq : ∀ h2 t2, (∀ b o, b ≠ x → h.get? b = some o → h2.get? b = some o) → h2.get? x = some (HandSPX.excO C t2) → Q .none ⟨h2, g, d, tk, os⟩) :
    wpAny (model prog w) A (call (.ref u) rest) Q E ⟨h, g, d, tk, os⟩ := by
  refine wpAny_call (codeAny_of_tree ?_)
  show wpAny _ A.in1 (callAny (.ref u) ⟨rest, []⟩) _ _ _
  simp only [callAny]
  refine wpAny_bind (wpAny_load hu ?_)
  simp only [PySem.W.kxs_mw, show (Value.type "method-wrapper" == Value.type "method" || Value.type "method-wrapper" == Value.type "builtin_function_or_method" || Value.type "method-wrapper" == Value.type "method-wrapper") = true by decide, if_true]
  refine PySem.W.KFB.if_so (by decide) ?_
  refine wpAny_bind (PySem.W.check_bound_init FB.toExcCallFacts hC he rfl (wpAny_bind (wpAny_pure (wpAny_pure ?_))))
  refine ⟨plainId_quiet FB.init.plain _, codeAny_builtin FB.initEntry ?_⟩
  exact PySem.W.exc_init_tree (cls := .ref C) (t0 := t0) (dv := none) (c2 := .none) (c3 := .none) (b4 := .bool false) he hz fun h2 k e2 _ => hq h2 _ k e2
end
theorem meth_evS {o : Expr} {m : Str} {es : List Expr} {apos pos : Pos} {env : Env} (h : es.all noStar = true) (hn : es.length < 30) (hl : (apos.endLine == pos.line) = true) :
    ∃ pl, eval (.Call (.Attribute o m apos) es [] pos) env = (do
      let ov ← attributeBase o m env (eval o env)
      standAt apos.atName
      let (f, first) ← holding [ov] (getMethod ov m pl)
      callWith pos f first (backTo pos (starEach es env)) (backToKw pos (keywordEach [] env))) := by
  refine ⟨(do return (← importBound o env).getD true), ?_⟩
  rw [arm_eval_Call]
  have hpos : methodCallPos true o env apos pos = pure pos := by unfold methodCallPos; simp [hl]
  unfold methodCall
  rw [form_of h hn, hpos]
  rfl
section
variable {P : Program} {w : World} {K : PySem.W.Frag} {mg : Str → Option Value} {base : Heap}
/-- THE RULE: super().__init__(text), then the rest -/
theorem fn_super {C f cda cc : Addr} {name qual : Str} {params : Arguments} {rest : List Stmt} {scope : Scope} {dV kV doc pm ct : Value} {an : Option Addr} {N ps : List Str} {sp : Sp} {msg : Str} {j : Nat} {p0 p1 p2 apos pos pos' : Pos} {ar : Arg}
    (G0 : SupG K P mg C f cda cc qual scope (PySem.W.ksFn name qual params (.Expr (.Call (.Attribute (.Call (.Name "super" p0) [] [] p1) "__init__" apos) [.Constant (.str msg) j p2] [] pos) pos' :: rest) scope dV kV doc pm an (.ref cda) ct cc))
    (S : SupS N ps scope) (T : OexC K C) (hli : (apos.endLine == pos.line) = true) (har : (params.posonlyargs ++ params.args).head? = some ar) (har0 : ps.head? = some ar.arg)
    (len : ∀ vs H Q E, sp vs H Q E → vs.length = ps.length)
    (hb : ∀ (A : Around) (outer : List Env) (s : Shared) (H : Hp) (vs : List V) (Q : VK) (E : XK), sp vs H Q E → ∃ (a : Addr) (ws : List V), vs = .ref a :: ws ∧ H a = some (exo a C none) ∧
      ∃ t, PSs (cxI P w K mg base N qual scope f (.ref cda) cc A outer s H) rest t ∧ t { nx := fun _ H' => Q .non H', rt := Q } (L2.start N vs) H) :
    FnOk P w K mg base (L2.CX P w) 1 f (PySem.W.ksFn name qual params (.Expr (.Call (.Attribute (.Call (.Name "super" p0) [] [] p1) "__init__" apos) [.Constant (.str msg) j p2] [] pos) pos' :: rest) scope dV kV doc pm an (.ref cda) ct cc) ps sp := by
  refine ⟨len, fun A outer s H args us vs Q E hr e0 hbind r hsp => ?_⟩
  have hl := len _ _ _ _ hsp
  have KX : K.In s.heap := e0.mod.kin.keeps fun b o e => (e0.bs b o e).1
  have lim : s.heap.NoLimit := e0.mod.nolimit.keeps fun b o e => (e0.bs b o e).1
  obtain ⟨oc, od, osl, lk⟩ := G0.fn
  obtain ⟨ccl, cdd, vsc, ccs, file, tf, lkc, hv2, hfile⟩ := G0.code
  obtain ⟨cl, cld, csl, lcell⟩ := G0.cell
  obtain ⟨cdt, hcd, hal⟩ := G0.ini
  obtain ⟨a, ws, rfl, ha, t, ht, hq⟩ := hb A outer s H vs Q E hsp
  refine PySem.ks_codeAny_call_defAt (fd := PySem.W.ksFn name qual params (.Expr (.Call (.Attribute (.Call (.Name "super" p0) [] [] p1) "__init__" apos) [.Constant (.str msg) j p2] [] pos) pos' :: rest) scope dV kV doc pm an (.ref cda) ct cc) (binds := ps.zip us)
    hr.depth (KX _ _ lk) rfl lim (PySem.W.codeRec_of KX G0.cd) rfl hbind S.nocell (fun y hy => S.par y.1 (List.of_mem_zip hy).1) (fun h1 hns hk => ?_) S.co S.gen S.kind
  have I := inv_sup (tk := s.toks + (ps.zip us).length) G0 S hr.hd e0 hl r hns hk
  obtain ⟨hp, g, d, t0, os⟩ := s
  have K1 : K.In h1 := I.kIn
  obtain ⟨t1, ho⟩ := exo_at I.hok ha
  obtain ⟨oD, hD1, hD2⟩ : ∃ oD, h1.get? C = some oD ∧ oD.data = .cls cdt := by
    unfold PySem.W.clsIn at hcd
    split at hcd
    · rename_i c d' cd' sl hoC
      cases hcd
      exact ⟨_, K1 _ _ hoC, rfl⟩
    · cases hcd
  have hka : scope.names.lookup ar.arg = some .local := S.par _ (List.mem_of_mem_head? har0)
  obtain ⟨u0, ur, rfl, rw'⟩ : ∃ u0 ur, us = .ref a :: ur ∧ Vals ws ur := by
    cases r with
    | @cons _ u0 _ ur ra rr => exact ⟨u0, ur, by rw [show u0 = Value.ref a from ra], rr⟩
  obtain ⟨pr, rfl⟩ : ∃ pr, ps = ar.arg :: pr := by
    cases ps with
    | nil => cases har0
    | cons p pr => cases har0; exact ⟨pr, rfl⟩
  have hvs : ((((ar.arg :: pr).zip (Value.ref a :: ur)).reverse).lookup ar.arg) = some (.ref a) := by
    have ndP : (ar.arg :: pr).Nodup := by rw [← S.pre]; exact S.nd.sublist (List.take_sublist _ _)
    refine lookup_mem ?_ (List.mem_reverse.mpr (by rw [List.zip_cons_cons]; exact List.mem_cons_self))
    rw [List.map_reverse]
    refine List.pairwise_reverse.mpr (List.Pairwise.imp (fun h => Ne.symm h) ?_)
    have : (Value.ref a :: ur).length = (ar.arg :: pr).length := by
      rw [← hl, List.length_cons, List.length_cons, rw'.length]
    rw [List.map_fst_zip (by omega)]
    exact ndP
  have hnsup : (base.Ns mainGlobals mg) := e0.mod.glob
  obtain ⟨mb, hb1, hb2⟩ := e0.mod.blt
  have up0 : ∀ b o, base.get? b = some o → h1.get? b = some o := fun b o e => hk b o (e0.bs b o e).1
  have hintr : interactive (PySem.W.ksEnv qual scope hp.objs.size f (.ref cda) cc) = false := by simp [interactive, S.kind]
  obtain ⟨pl, hev⟩ := meth_evS (o := .Call (.Name "super" p0) [] [] p1) (m := "__init__") (es := [.Constant (.str msg) j p2]) (apos := apos) (pos := pos) (env := PySem.W.ksEnv qual scope hp.objs.size f (.ref cda) cc) rfl (by show 1 < 30; decide) hli
  show _root_.PySem.wpAt (model P w) (A.deeper (PySem.W.ksEnv qual scope hp.objs.size f (.ref cda) cc)) _ (execs (.Expr (.Call (.Attribute (.Call (.Name "super" p0) [] [] p1) "__init__" apos) [.Constant (.str msg) j p2] [] pos) pos' :: rest) (PySem.W.ksEnv qual scope hp.objs.size f (.ref cda) cc)) _ _ _
  rw [execs_cons, exec_Expr _ _ _ hintr rfl, hev]
  refine PySem.wpAt_bind (PySem.wpAt_bind (PySem.wpAt_of_wpAny (wpAny_standAt ?_)))
  refine PySem.wpAt_bind (PySem.wpAt_bind ?_)
  refine PySem.ks_wpAt_super_base S.sup S.cls (by decide) rfl (K1 _ _ lk) rfl har rfl (K1 _ _ lkc) rfl hv2 hfile G0.top ?_
  refine PySem.W.ks_loadName_global S.kind S.sup (Calls.loadGlobal_builtin (hnsup.keeps up0) G0.sup (hb1.keeps up0) ((hb2 _ (by decide)).trans PyProof.Rows.Boot.«super») ⟨rfl, ?_⟩)
  refine wpAny_loadName_free S.kind S.cls rfl ⟨_, K1 _ _ lcell, rfl⟩ ?_
  refine wpAny_loadName_local S.kind hka hns hvs ?_
  refine PySem.ks_wpAny_isType_cls hD1 hD2 ⟨rfl, ?_⟩
  refine PySem.ks_wpAny_call_super hD1 hD2 ho rfl (fun c z => by cases z) (PySem.W.looks_mroIn K1 G0.self) (fun h2 e2 k2 => ?_)
  refine PySem.wpAt_of_wpAny (wpAny_bind (wpAny_standAt (wpAny_bind (wpAny_holding ?_))))
  have K2 : K.In h2 := K1.keeps k2
  have ho2 := k2 _ _ ho
  have hI2 : PySem.W.InstAt h2 a _ C none := ⟨ho2, rfl, rfl, trivial⟩
  refine PySem.W.kxs_getMethod PySem.W.kxs_ValueError e2 (PySem.W.looks_opaque K2 G0.opq) (l₀ := cdt.mro) (fun A Q E s k q => wpAny_bind ((PySem.W.looks_clsIn K2 hcd) A _ E s k (wpAny_pure q))) rfl K2 hal (hI2.type.andThen (PySem.W.looks_subIn K2 G0.sub)) (PySem.W.ks_ne K2 hI2 hcd) (by decide) ?_
  have k3 : ∀ b o, h1.get? b = some o → (h2.push (PySem.W.kxs_mw "ValueError.__init__" a)).get? b = some o := fun b o e => Heap.get?_push_of_some _ (k2 b o e)
  have hu3 : (h2.push (PySem.W.kxs_mw "ValueError.__init__" a)).get? h2.objs.size = some (PySem.W.kxs_mw "ValueError.__init__" a) := Heap.get?_push_at rfl rfl
  refine PySem.W.kxs_callWith (i := "ValueError.__init__") (x := a) rfl (Calls.evalArgs_plain (Calls.spliced_cons (Calls.Constant_str (k := j) (pos := p2) (Calls.spliced_nil ⟨hu3, ?_⟩))))
  obtain ⟨nm, q, N', bs, bm, sn, sub, ab, col, dd, k0, k1, k2', k3', k5, hC, hbm⟩ := T.cls
  refine call_mw F.excBase_ValueError (k3 _ _ (K1 _ _ hC)) (k3 _ _ ho) hu3 (by show 1 ≤ sizeLine; decide) fun h4 t4 k4 e4 => ?_
  refine PySem.wpAt_of_wpAny (wpAny_dropValue (PySem.wpAt_of_wpAny ?_))
  have I3 := I.kept (t' := t0 + ((ar.arg :: pr).zip (Value.ref a :: ur)).length + 1 + 1) k3
  have J := I3.write (t' := t0 + ((ar.arg :: pr).zip (Value.ref a :: ur)).length + 1 + 1) (x := a) (e := a) (o := exo a C none) (by rw [ha]; exact True.intro) (.inl rfl) k4 ⟨_, e4⟩ (exo_ok e4)
  have eu : upd H a (exo a C none) = H := by
    funext b
    by_cases hbq : b = a
    · rw [hbq, upd_same, ha]
    · rw [upd_ne hbq]
  rw [eu] at J
  show wpAny (model P w) (A.deeper (PySem.W.ksEnv qual scope hp.objs.size f (.ref cda) cc)) (execs rest (PySem.W.ksEnv qual scope hp.objs.size f (.ref cda) cc)) _ _ _
  refine wpAny_mono (ht.run [] _ (L2.start N (.ref a :: ws)) H _ J hq) (fun fl s' hs => ?_) fun _ _ z => False.elim z
  cases fl with
  | ret u =>
    obtain ⟨v, σ', H', J', rv, q⟩ := hs
    exact ⟨v, H', J'.os, J'.bare, J'.base, J'.hok, rv, q⟩
  | next =>
    obtain ⟨σ', H', J', q⟩ := hs
    exact ⟨.non, H', J'.os, J'.bare, J'.base, J'.hok, rfl, q⟩
  | brk =>
    obtain ⟨_, _, _, q⟩ := hs
    exact False.elim q
  | cont =>
    obtain ⟨_, _, _, q⟩ := hs
    exact False.elim q

def chkRest (N : List Str) (sc : Scope) : List Str → Nat → List Stmt → Bool
  | [], _, r => match r with | [] => true | _ => false
  | f :: fs, i, r => match r with
    | .Assign [.Attribute (.Name s _) g _] (.Name x _) _ :: r => decide (g = f) && decide (N[0]? = some s) && decide (N[i]? = some x) && (match sc.names.lookup s with | some .local => true | _ => false) && (match sc.names.lookup x with | some .local => true | _ => false) &&
      !(s == ("__debug__" : Str)) && !(s == ("__classdict__" : Str)) && !(x == ("__debug__" : Str)) && !(x == ("__classdict__" : Str)) && chkRest N sc fs (i + 1) r
    | _ => false
theorem rest_one {X : Cx} {N : List Str} {sc : Scope} {f : Str} {fs : List Str} {i : Nat} {r : List Stmt} (hN : X.N = N) (hS : X.env.scope = sc) (h : chkRest N sc (f :: fs) i r = true) :
    ∃ st r', r = st :: r' ∧ PS X st (tOst X.K f (tVar 0) (tVar i)) ∧ chkRest N sc fs (i + 1) r' = true := by
  unfold chkRest at h
  split at h
  · rename_i s ps g pa x px pos r'
    simp only [Bool.and_eq_true, decide_eq_true_eq, Bool.not_eq_true'] at h
    obtain ⟨⟨⟨⟨⟨⟨⟨⟨⟨rfl, q1⟩, q2⟩, q3⟩, q4⟩, q5⟩, q6⟩, q7⟩, q8⟩, q9⟩ := h
    have l1 : X.env.scope.names.lookup s = some .local := by
      rw [hS]; split at q3
      · assumption
      · cases q3
    have l2 : X.env.scope.names.lookup x = some .local := by
      rw [hS]; split at q4
      · assumption
      · cases q4
    exact ⟨_, _, rfl, ps_ost (pe_var (by rw [hN]; exact q1) (.inl l1) q5 q6) (pe_var (by rw [hN]; exact q2) (.inl l2) q7 q8), q9⟩
  · cases h
theorem rest_old {X : Cx} {N : List Str} {sc : Scope} {C : Addr} (hN : X.N = N) (hS : X.env.scope = sc) (T : OexC X.K C) : ∀ (fs : List Str) (i : Nat) (r : List Stmt), chkRest N sc fs i r = true → (∀ f ∈ fs, PySem.W.findIn X.K (.ref C) f = some none) →
    ∃ t, PSs X r t ∧ ∀ (D : Ends) (σ : L2.St) (H : Hp) (a d : Addr) (old : List (Str × V)) (us : List V), H a = some (exo a C (some d)) → H d = some (exd d old) → old.length + fs.length ≤ 900 → d ≠ a → σ[0]? = some (some (.ref a)) → us.length = fs.length →
      (∀ (j : Nat) u, us[j]? = some u → σ[i + j]? = some (some u)) → D.nx σ (upd H d (exd d ((fs.zip us).reverse ++ old))) → t D σ H
  | [], i, r, h, hf => by
    cases r with
    | cons _ _ => simp [chkRest] at h
    | nil =>
      refine ⟨tNext, pss_nil, fun D σ H a d old us h1 h2 h3 hda h4 h5 h6 k => ?_⟩
      have e : upd H d (exd d old) = H := by
        funext b
        by_cases hb : b = d
        · subst hb; rw [upd_same, h2]
        · rw [upd_ne hb]
      have k : D.nx σ (upd H d (exd d old)) := k
      rw [e] at k
      exact k
  | f :: fs, i, r, h, hf => by
    obtain ⟨st, r', rfl, p1, h'⟩ := rest_one hN hS h
    obtain ⟨t, pt, ht⟩ := rest_old hN hS T fs (i + 1) r' h' (fun g hg => hf g (List.mem_cons_of_mem _ hg))
    refine ⟨_, pss_cons p1 pt, fun D σ H a d old us h1 h2 h3 hda h4 h5 h6 k => ?_⟩
    cases us with
    | nil => cases h5
    | cons u us =>
      rw [List.length_cons] at h3
      refine ⟨u, h6 0 u rfl, .ref a, h4, a, C, rfl, T, hf f List.mem_cons_self, .inr ⟨d, old, h1, h2, by omega, ?_⟩⟩
      refine ht D σ _ a d ((f, u) :: old) us (by rw [upd_ne (Ne.symm hda)]; exact h1) upd_same (by rw [List.length_cons]; omega) hda h4 (by simpa using h5) (fun j w hw => by rw [show i + 1 + j = i + (j + 1) by omega]; exact h6 (j + 1) w (by simpa using hw)) ?_
      rw [List.zip_cons_cons, List.reverse_cons, List.append_assoc] at k
      have e : upd (upd H d (exd d ((f, u) :: old))) d (exd d ((fs.zip us).reverse ++ (f, u) :: old)) = upd H d (exd d ((fs.zip us).reverse ++ (f, u) :: old)) := by
        funext b
        by_cases hb : b = d
        · subst hb; rw [upd_same, upd_same]
        · rw [upd_ne hb, upd_ne hb, upd_ne hb]
      rw [e]
      exact k
theorem rest_new {X : Cx} {N : List Str} {sc : Scope} {C : Addr} {f : Str} {fs : List Str} {r : List Stmt} (hN : X.N = N) (hS : X.env.scope = sc) (T : OexC X.K C) (h : chkRest N sc (f :: fs) 1 r = true) (hf : ∀ g ∈ f :: fs, PySem.W.findIn X.K (.ref C) g = some none) (hfew : (f :: fs).length ≤ 900) :
    ∃ t, PSs X r t ∧ ∀ (D : Ends) (σ : L2.St) (H : Hp) (a : Addr) (us : List V), H a = some (exo a C none) → σ[0]? = some (some (.ref a)) → us.length = (f :: fs).length → (∀ (j : Nat) u, us[j]? = some u → σ[1 + j]? = some (some u)) →
      (∀ d, H d = none → d ≠ a → D.nx σ (upd (upd H d (exd d (((f :: fs).zip us).reverse))) a (exo a C (some d)))) → t D σ H := by
  obtain ⟨st, r', rfl, p1, h'⟩ := rest_one hN hS h
  obtain ⟨t, pt, ht⟩ := rest_old hN hS T fs 2 r' h' (fun g hg => hf g (List.mem_cons_of_mem _ hg))
  refine ⟨_, pss_cons p1 pt, fun D σ H a us h1 h4 h5 h6 k => ?_⟩
  cases us with
  | nil => cases h5
  | cons u us =>
    rw [List.length_cons] at hfew
    refine ⟨u, h6 0 u rfl, .ref a, h4, a, C, rfl, T, hf f List.mem_cons_self, .inl ⟨h1, fun d hd hda => ?_⟩⟩
    refine ht D σ _ a d [(f, u)] us upd_same (by rw [upd_ne hda, upd_same]) (by show 1 + _ ≤ _; omega) hda h4 (by simpa using h5) (fun j w hw => by rw [show 2 + j = 1 + (j + 1) by omega]; exact h6 (j + 1) w (by simpa using hw)) ?_
    have k' := k d hd hda
    rw [List.zip_cons_cons, List.reverse_cons] at k'
    have e : upd (upd (upd H d (exd d [(f, u)])) a (exo a C (some d))) d (exd d ((fs.zip us).reverse ++ [(f, u)])) = upd (upd H d (exd d ((fs.zip us).reverse ++ [(f, u)]))) a (exo a C (some d)) := by
      funext b
      by_cases hb : b = d
      · subst hb; rw [upd_same, upd_ne hda, upd_same]
      · rw [upd_ne hb]
        by_cases hba : b = a
        · subst hba; rw [upd_same, upd_same]
        · rw [upd_ne hba, upd_ne hb, upd_ne hba, upd_ne hb]
    rw [e]
    exact k'
/-- an exception's __init__ keeps spX -/
theorem init_ok {Z : Gz} {k : Nat} {e : Er} {f cda cc : Addr} {name qual : Str} {params : Arguments} {rest : List Stmt} {scope : Scope} {dV kV doc pm ct : Value} {an : Option Addr} {N : List Str} {msg : Str} {j : Nat} {p0 p1 p2 apos pos pos' : Pos} {ar : Arg} {g : Str} {gs : List Str}
    (G0 : SupG Z.K P mg (Z.ec k) f cda cc qual scope (PySem.W.ksFn name qual params (.Expr (.Call (.Attribute (.Call (.Name "super" p0) [] [] p1) "__init__" apos) [.Constant (.str msg) j p2] [] pos) pos' :: rest) scope dV kV doc pm an (.ref cda) ct cc))
    (S : SupS N N scope) (T : OexC Z.K (Z.ec k)) (hli : (apos.endLine == pos.line) = true) (har : (params.posonlyargs ++ params.args).head? = some ar) (har0 : N.head? = some ar.arg) (hl : N.length = e.flds.length + 1)
    (hfl : e.flds.map Z.nm = (g :: gs).reverse) (hc : chkRest N scope (g :: gs) 1 rest = true) (hno : ∀ h ∈ g :: gs, PySem.W.findIn Z.K (.ref (Z.ec k)) h = some none) (hfew : e.flds.length ≤ 900) :
    FnOk P w Z.K mg base (L2.CX P w) 1 f (PySem.W.ksFn name qual params (.Expr (.Call (.Attribute (.Call (.Name "super" p0) [] [] p1) "__init__" apos) [.Constant (.str msg) j p2] [] pos) pos' :: rest) scope dV kV doc pm an (.ref cda) ct cc) N (spX Z k e) := by
  have hlen : e.flds.length = (g :: gs).length := by rw [← List.length_map (f := Z.nm), hfl, List.length_reverse]
  refine fn_super G0 S T hli har har0 (fun vs H Q E h => ?_) fun A outer s H vs Q E h => ?_
  · obtain ⟨a, us, rfl, hu, _⟩ := h
    rw [List.length_cons, hu, hl]
  · obtain ⟨a, us, rfl, hu, ha, q⟩ := h
    obtain ⟨t, pt, ht⟩ := rest_new (X := cxI P w Z.K mg base N qual scope f (.ref cda) cc A outer s H) (r := rest) rfl rfl T hc hno (by omega)
    refine ⟨a, us, rfl, ha, t, pt, ht _ _ H a us ha ?_ (by rw [hu, hlen]) (fun j u hj => ?_) fun d hd hda => ?_⟩
    · unfold L2.start; simp
    · unfold L2.start
      have hj' := (List.getElem?_eq_some_iff.mp hj).1
      rw [List.getElem?_append_left (by rw [List.length_map, List.length_cons]; omega), List.getElem?_map, show 1 + j = j + 1 by omega, List.getElem?_cons_succ, hj]; rfl
    · have e1 : ((g :: gs).zip us).reverse = (e.flds.map Z.nm).zip us.reverse := by
        rw [hfl]
        exact List.reverse_zipWith (by rw [hu, hlen])
      rw [e1]
      exact q d hd hda
end
end G

/-! GFact -/
set_option maxRecDepth 100000
set_option maxHeartbeats 4000000
namespace G
open PySem PySem.Spec PyProof.Rows L2
section
variable {K : PySem.W.Frag}
/-- a def stands at f -/
def Dk (K : PySem.W.Frag) (x qual : Str) (st : Stmt) (f : Addr) : Prop := ∃ fd, Fun K x qual st f fd
theorem Dk.make {x qual : Str} {st : Stmt} {f : Addr} {oc : Value} {od an : Option Addr} {osl : Array (Option Value)} {kV doc pm cdv ct : Value} (l : K.lookup f = some ⟨oc, od, .func (PySem.W.fnOf x qual (defArgs st) (defBody st) (defScope st) .none kV doc pm an cdv ct), osl⟩)
    (c : PySem.W.codeIn K cdv qual = true) (k : PySem.W.keepIn K (.ref f) = true) : Dk K x qual st f := ⟨_, fun_mk l c k⟩
/-- a class whose objects are plain; fi its __init__ -/
structure Ck1 (K : PySem.W.Frag) (C fi : Addr) : Prop where
  cl : Cls K C
  mks : Mk K C fi
theorem Ck1.make {C fi : Addr} (pg : PySem.W.plainGet K C Str.empty = true) (hd : PySem.W.hasDictIn K C = true) (po : PySem.W.plainOver K C = true) (sa : PySem.W.findIn K (.ref C) "__setattr__" = some (some (.builtin "object.__setattr__"))) (mk : PySem.W.makesIn K C = true) (kc : PySem.W.keepIn K (.ref C) = true)
    (a1 : PySem.W.findIn K (.ref C) "__init__" = some (some (.ref fi))) (i1 : PySem.W.isFn K (.ref fi) = true) : Ck1 K C fi := ⟨⟨pg, hd, po, sa⟩, ⟨mk, a1, i1, kc⟩⟩
/-- an exception class with an own __init__ that says super().__init__ -/
structure Ek1 (K : PySem.W.Frag) (C fi : Addr) : Prop where
  cl : OexC K C
  xf : XfC K C
  ini : PySem.W.findIn K (.ref C) "__init__" = some (some (.ref fi))
  ty : PySem.W.typeIn K (.ref fi) = some (.type "function")
  hd : PySem.W.hasDictIn K C = true
theorem Ek1.make {C fi : Addr} {nm q : Str} {N : Addr} {bs bm : List Value} {sn : List Str} {sub : List Value} {ab : Bool} {col : Option Bool} {dd : Option Addr} {k0 k1 k2 k3 k5 : Option Value}
    (xL : K.lookup C = some (excClassObj nm q C N bs bm true sn sub ab col dd k0 k1 k2 k3 k5 "ValueError.__new__")) (hbm : PySem.HandSPX.refsVE bm = true)
    (sa : PySem.W.findIn K (.ref C) "__setattr__" = some (some (.builtin "object.__setattr__"))) (ga : PySem.W.findIn K (.ref C) "__getattribute__" = some (some (.builtin "BaseException.__getattribute__"))) (gg : PySem.W.findIn K (.ref C) "__getattr__" = some none)
    (ex : PySem.W.subIn K (.ref C) (.type "BaseException") = some true) (ty : PySem.W.typeIn K (.ref C) = some (.type "type")) (kc : PySem.W.keepIn K (.ref C) = true) (hd : PySem.W.hasDictIn K C = true)
    (ini : PySem.W.findIn K (.ref C) "__init__" = some (some (.ref fi))) (tf : PySem.W.typeIn K (.ref fi) = some (.type "function")) : Ek1 K C fi :=
  ⟨⟨⟨nm, q, N, bs, bm, sn, sub, ab, col, dd, k0, k1, k2, k3, k5, xL, hbm⟩, sa, ex, ty, kc⟩, ⟨ga, gg, ex, hd⟩, ini, tf, hd⟩
end
/-- the scope of an __init__ that says super() -/
def supB (N : List Str) (sc : Scope) : Bool :=
  (match sc.kind with | .function => true | _ => false) && !sc.isCoroutine && !sc.isGenerator && decide N.Nodup && (N.all fun x => match sc.names.lookup x with | some .local => true | _ => false) &&
    (sc.names.all fun y => match y.2 with | .cell => false | .free => decide (y.1 = "__class__") | _ => true) && (match sc.names.lookup ("__class__" : Str) with | some .free => true | _ => false) && (match sc.names.lookup ("super" : Str) with | some .globalImplicit => true | _ => false)
theorem supS_of {N : List Str} {sc : Scope} (h : supB N sc = true) : SupS N N sc := by
  unfold supB at h
  simp only [Bool.and_eq_true, decide_eq_true_eq, List.all_eq_true, Bool.not_eq_true'] at h
  obtain ⟨⟨⟨⟨⟨⟨⟨h1, h2⟩, h3⟩, h4⟩, h5⟩, h6⟩, h7⟩, h8⟩ := h
  refine ⟨?_, h2, h3, h4, List.take_length, fun x hx => ?_, fun y hy e => ?_, fun y e => ?_, ?_, ?_⟩
  · split at h1
    · assumption
    · cases h1
  · have q := h5 x hx
    split at q
    · assumption
    · cases q
  · have q := h6 y hy
    rw [e] at q; cases q
  · have q := h6 _ (PySem.mem_of_lookup e)
    exact of_decide_eq_true q
  · split at h7
    · assumption
    · cases h7
  · split at h8
    · assumption
    · cases h8
/-- the shape of such an __init__ -/
def initB (N : List Str) (fl : List Str) (st : Stmt) : Bool := match defBody st with
  | .Expr (.Call (.Attribute (.Call (.Name x _) [] [] _) m apos) [.Constant (.str _) _ _] [] pos) _ :: rest => decide (x = "super") && decide (m = "__init__") && (apos.endLine == pos.line) && chkRest N (defScope st) fl 1 rest && supB N (defScope st) &&
      (match ((defArgs st).posonlyargs ++ (defArgs st).args).head? with | some ar => decide (N.head? = some ar.arg) | none => false)
  | _ => false
/-- the def of it as the written part has it -/
def Ik (K : PySem.W.Frag) (P : Program) (mg : Str → Option Value) (name qual : Str) (st : Stmt) (C fi : Addr) (fd : FuncData) : Prop :=
  ∃ (kV doc pm ct : Value) (an : Option Addr) (cda cc : Addr), fd = PySem.W.ksFn name qual (defArgs st) (defBody st) (defScope st) .none kV doc pm an (.ref cda) ct cc ∧ SupG K P mg C fi cda cc qual (defScope st) fd
theorem init_of {Z : Gz} {P : Program} {w : World} {mg : Str → Option Value} {base : Heap} {k : Nat} {e : Er} {fi : Addr} {name qual : Str} {st : Stmt} {N fl : List Str} {fd : FuncData} (I : Ik Z.K P mg name qual st (Z.ec k) fi fd) (E : Ek1 Z.K (Z.ec k) fi) (h : initB N fl st = true)
    (hl : N.length = e.flds.length + 1) (hfl : e.flds.map Z.nm = fl.reverse) (hne : fl ≠ []) (hno : ∀ f ∈ fl, PySem.W.findIn Z.K (.ref (Z.ec k)) f = some none) (hfew : e.flds.length ≤ 900) : FnOk P w Z.K mg base (L2.CX P w) 1 fi fd N (spX Z k e) := by
  obtain ⟨kV, doc, pm, ct, an, cda, cc, rfl, G0⟩ := I
  unfold initB at h
  split at h
  · rename_i x p0 p1 m apos msg j p2 pos pos' rest eb
    simp only [Bool.and_eq_true, decide_eq_true_eq] at h
    obtain ⟨⟨⟨⟨⟨rfl, rfl⟩, h3⟩, h4⟩, h5⟩, h6⟩ := h
    split at h6
    · rename_i ar ea
      rw [decide_eq_true_eq] at h6
      rw [eb] at G0 ⊢
      cases fl with
      | nil => exact absurd rfl hne
      | cons g gs => exact init_ok G0 (supS_of h5) E.cl h3 ea h6 hl hfl h4 hno hfew
    · cases h6
  · cases h
end G
namespace G
open PySem PySem.Spec PyProof.Rows L2
theorem Ik.make {K : PySem.W.Frag} {P : Program} {mg : Str → Option Value} {h : Heap} (X : K.In h) (G : h.Ns mainGlobals mg) {name qual : Str} {st : Stmt} {C fi cda cc : Addr} {oc ccl cl kV doc pm ct : Value} {od cdd cld an : Option Addr} {osl ccs csl : Array (Option Value)} {vs : Array Value} {file : Str} {tf : Tok}
    (lk : K.lookup fi = some ⟨oc, od, .func (PySem.W.ksFn name qual (defArgs st) (defBody st) (defScope st) .none kV doc pm an (.ref cda) ct cc), osl⟩) (cd : PySem.W.codeIn K (.ref cda) qual = true) (code : K.lookup cda = some ⟨ccl, cdd, .fields vs, ccs⟩) (hv : vs[2]? = some (.str file tf)) (hf : (P.main.file == file) = true)
    (cell : K.lookup cc = some ⟨cl, cld, .cell (some (.ref C)), csl⟩) (hm : PySem.W.ks_superIn K C C "__init__" = some (some (.builtin "ValueError.__init__"))) (self : PySem.W.mroIn K C (.ref C) = some true) (opq : PySem.W.nsIn K cStatics "thirdparty.any" = some none)
    (sub : PySem.W.subIn K (.ref C) (.type "ValueError") = some true) (sup : PySem.W.nsIn K mainGlobals "super" = some none) (top : (P.main.scope.names.lookup ("super" : Str)).isSome = false) : ∃ fd, Ik K P mg name qual st C fi fd := by
  refine ⟨_, kV, doc, pm, ct, an, cda, cc, rfl, ⟨_, _, _, lk⟩, cd, ⟨_, _, _, _, _, _, code, hv, hf⟩, ⟨_, _, _, cell⟩, ?_, self, opq, sub, PySem.W.mg_none_of X G sup, top⟩
  unfold PySem.W.ks_superIn at hm
  cases e : PySem.W.clsIn K C with
  | none => rw [e] at hm; cases hm
  | some cdt => rw [e] at hm; exact ⟨cdt, rfl, hm⟩
def DefAll (Z : Gz) (mg : Str → Option Value) : Nat → List Fn → Prop
  | _, [] => True
  | i, k :: r => (∃ st fd, DefG Z mg i k st fd) ∧ DefAll Z mg (i + 1) r
theorem DefAll.get {Z : Gz} {mg : Str → Option Value} : ∀ {l : List Fn} {i : Nat}, DefAll Z mg i l → ∀ (j : Nat) k, l[j]? = some k → ∃ st fd, DefG Z mg (i + j) k st fd
  | [], i, _, j, k, e => by simp at e
  | x :: l, i, h, 0, k, e => by
    simp at e; subst e; exact h.1
  | x :: l, i, h, j + 1, k, e => by
    have := DefAll.get h.2 j k (by simpa using e)
    rw [show i + (j + 1) = i + 1 + j by omega]; exact this
structure ErrF (Z : Gz) (P : Program) (mg : Str → Option Value) (k : Nat) (e : Er) : Prop where
  ex : ∃ (fi : Addr) (name qual : Str) (st : Stmt) (N fl : List Str) (fd : FuncData), Ik Z.K P mg name qual st (Z.ec k) fi fd ∧ Ek1 Z.K (Z.ec k) fi ∧ initB N fl st = true ∧ N.length = e.flds.length + 1 ∧ e.flds.map Z.nm = fl.reverse ∧ fl ≠ [] ∧ (∀ f ∈ fl, PySem.W.findIn Z.K (.ref (Z.ec k)) f = some none) ∧ Binds Z.K fd N []
  fl : ∀ f ∈ e.flds, f < Z.P.nms.length
  few : e.flds.length ≤ 900
  nm : mg e.name = some (.ref (Z.ec k))
theorem ErrF.ok {Z : Gz} {P : Program} {w : World} {mg : Str → Option Value} {base : Heap} {k : Nat} {e : Er} (E : ErrF Z P mg k e) : ErrG Z P w mg base k e := by
  obtain ⟨fi, name, qual, st, N, fl, fd, I, K1, h1, h2, h3, h4, h5, h6⟩ := E.ex
  refine ⟨K1.cl, ⟨fi, fd, N, K1.ini, K1.ty, init_of I K1 h1 h2 h3 h4 h5 E.few, h6⟩, E.fl, ?_, E.few, E.nm, K1.xf, fun f hf => ?_⟩
  · intro z
    rw [z] at h3
    exact h4 (List.reverse_eq_nil_iff.mp h3.symm)
  · refine h5 _ ?_
    rw [← List.mem_reverse, ← h3]
    exact List.mem_map_of_mem hf
def ErrAll (Z : Gz) (P : Program) (mg : Str → Option Value) : Nat → List Er → Prop
  | _, [] => True
  | i, k :: r => ErrF Z P mg i k ∧ ErrAll Z P mg (i + 1) r
theorem ErrAll.get {Z : Gz} {P : Program} {mg : Str → Option Value} : ∀ {l : List Er} {i : Nat}, ErrAll Z P mg i l → ∀ (j : Nat) k, l[j]? = some k → ErrF Z P mg (i + j) k
  | [], i, _, j, k, e => by simp at e
  | x :: l, i, h, 0, k, e => by
    simp at e; subst e; exact h.1
  | x :: l, i, h, j + 1, k, e => by
    have := ErrAll.get h.2 j k (by simpa using e)
    rw [show i + (j + 1) = i + 1 + j by omega]; exact this
/-- a plain class -/
def ClsF (Z : Gz) (mg : Str → Option Value) (c : Nat) (k : Cl) : Prop := mg k.name = some (.ref (Z.cl c)) ∧ Ck1 Z.K (Z.cl c) (Z.fa k.init) ∧ k.init < Z.P.fns.length ∧
    (∀ p ∈ k.meths, Meth Z.K (Z.cl c) (Z.nm p.1) (Z.fa p.2) ∧ p.2 < Z.P.fns.length) ∧ ∀ f ∈ k.flds, NoAttr Z.K (Z.cl c) (Z.nm f)
def ClsAll (Z : Gz) (mg : Str → Option Value) : Nat → List Cl → Prop
  | _, [] => True
  | i, k :: r => ClsF Z mg i k ∧ ClsAll Z mg (i + 1) r
theorem ClsAll.get {Z : Gz} {mg : Str → Option Value} : ∀ {l : List Cl} {i : Nat}, ClsAll Z mg i l → ∀ (j : Nat) k, l[j]? = some k → ClsF Z mg (i + j) k
  | [], i, _, j, k, e => by simp at e
  | x :: l, i, h, 0, k, e => by
    simp at e; subst e; exact h.1
  | x :: l, i, h, j + 1, k, e => by
    have := ClsAll.get h.2 j k (by simpa using e)
    rw [show i + (j + 1) = i + 1 + j by omega]; exact this
theorem findM_mem {m g : Nat} : ∀ {l : List (Nat × Nat)}, findM m l = some g → (m, g) ∈ l
  | [], h => by simp [findM] at h
  | (a, b) :: l, h => by
    unfold findM at h
    split at h
    · rename_i e; subst e; cases h; exact List.mem_cons_self
    · exact List.mem_cons_of_mem _ (findM_mem h)
theorem has_get {α : Type} {l : List α} {i : Nat} (h : i < l.length) : ∃ j, l[i]? = some j := ⟨l[i], List.getElem?_eq_getElem h⟩
theorem txt_of {Z : Gz} {P : Program} {w : World} {mg : Str → Option Value} {base : Heap} (D : DefAll Z mg 0 Z.P.fns) (C : ClsAll Z mg 0 Z.P.cls) (E : ErrAll Z P mg 0 Z.P.ers) (hb : ∀ x ∈ blts, mg x = none)
    (hx : ∀ c e k e', Z.P.ers[c]? = some e → Z.P.ers[k]? = some e' → PySem.W.subIn Z.K (.ref (Z.ec c)) (.ref (Z.ec k)) = some (e.ups.contains k)) (hn : Z.P.nms.Nodup) : TxtG Z P w mg base := by
  refine ⟨fun f k h => by simpa using D.get f k h, hb, fun c k h => ?_, fun k e h => by simpa using (E.get k e h).ok, fun c e k e' h1 h2 => ?_, hn⟩
  · have q : ClsF Z mg c k := by simpa using C.get c k h
    exact ⟨q.1, q.2.1.cl, q.2.1.mks, has_get q.2.2.1, fun m g hm => ⟨(q.2.2.2.1 _ (findM_mem hm)).1, has_get (q.2.2.2.1 _ (findM_mem hm)).2⟩, q.2.2.2.2⟩
  · have q : ErrF Z P mg k e' := by simpa using E.get k e' h2
    obtain ⟨fi, name, qual, st, N, fl, fd, I, K1, _⟩ := q.ex
    exact PySem.W.exm_ref K1.cl.exC K1.hd K1.cl.tyC (hx c e k e' h1 h2)
end G

/-! GEnd -/
set_option maxRecDepth 100000
set_option maxHeartbeats 4000000
namespace G
open PySem PySem.Spec PyProof.Rows L2
theorem scr_of {K : PySem.W.Frag} {H : Hp} {a : Addr} {ns : List Int} (hO : Only H) (h : SqL K H a (ns.map V.int)) : Scr K H a ns := by
  rcases h with (h | h) | h
  · rcases hO a with e | ⟨o, xs, e⟩ <;> rw [h] at e <;> cases e
  · exact .inl h
  · exact .inr h
theorem walk_g {l : PySem.W.OpenLaw} {q : Program} {loose : List Str} {XP : (Str → Option Value) → Heap → Prop} {YP : World → Heap → Prop} {d : DefRec} {K : Params → PySem.W.Frag} {p : Pg} {wf n lk : Nat} (hn : l.most = some 63) (hdf : d.params.defaults = []) (hr : Room (2 * n + 1) callerA)
    (hlaw : ∀ ns : List Int, ns.length ≤ 63 → ∃ M, callF p wf n lk [.scr ns] [] = .ok (.bl true) M)
    (hY : ∀ (w : World) (h : Heap), YP w h → (K w.params).In h)
    (F : ∀ (w : World) (mg : Str → Option Value) (fa : Addr) (h : Heap), (K w.params).In h → h.Ns mainGlobals mg → mg d.name = some (.ref fa) →
      ∃ (fd : FuncData) (Z : Gz), Z.P = p ∧ Z.wf = wf ∧ Z.K = K w.params ∧ (∀ (s : Shared) (v : Value), BindsTo s fd ⟨[v], []⟩ [("script", v)]) ∧ ∀ base : Heap, (K w.params).In base → base.Ns mainGlobals mg → FnOk l.prog w (K w.params) mg base (L2.CX l.prog w) (2 * n + 1) fa fd ["script"] (spR Z n lk)) :
    PySem.W.WalkO q loose XP YP l.row.toRowW d [] (fun f vs => PySem.call f vs) := by
  refine L2.walk_of (n := 63) (k := 2 * n + 1) (x := "script") (CX := fun w => L2.CX l.prog w) (sp := fun w vs H Q E => vs.length = 1 ∧ ∀ Z : Gz, Z.P = p → Z.wf = wf → Z.K = K w.params → spR Z n lk vs H Q E) hn (by decide) hdf hr hY (fun w mg fa h KX G hm => ?_) (fun w H a ns hl hO hS => ?_) fun w H s e s' h => ?_
  · obtain ⟨fd, Z, h1, h2, h3, hb, hF⟩ := F w mg fa h KX G hm
    exact ⟨fd, hb, fun base b1 b2 => (hF base b1 b2).imp fun vs H Q E q => q.2 Z h1 h2 h3⟩
  · refine ⟨rfl, fun Z h1 h2 h3 => ?_⟩
    obtain ⟨M, e⟩ := hlaw ns hl
    refine ⟨⟨[], fun _ => False⟩, [], [.scr ns], ⟨rfl, fun n o a h => by simp at h, fun i j a h => by obtain ⟨o, h, _⟩ := h; simp at h, fun a h => h.elim, fun n a h => by obtain ⟨o, h, _⟩ := h; simp at h⟩, .cons ?_ .nil, ?_⟩
    · rw [Rep, h3]
      exact ⟨a, rfl, scr_of hO hS⟩
    · rw [h1, h2, e]
      intro al' H' v s S r
      exact rep_bl (X := Z.toGy) r
  · obtain ⟨_, _, _, _, _, _, _, _, _, _, _, _, z⟩ := h
    exact z.elim
end G

/-! the text -/
namespace K27
open PySem (Str)
open G
/-- is_whole(value): 0 value -/
def b0 : Sms := (.cons (.ret (.andV (.cons (.isi (.v 0) .int) (.cons (.notV (.isi (.v 0) .bool)) .nil)))) .nil)
def f0 : Fn := ⟨"is_whole", "is_whole", true, 1, ["value"], b0, true⟩
/-- check_most(value, most, what): 0 value 1 most 2 what -/
def b1 : Sms := (.cons (.ite (.tand (.cons (.val (.call 0 (.cons (.v 0) .nil))) (.cons (.cmp .gt (.v 0) (.v 1)) .nil))) (.cons (.rais 0 (.cons (.v 2) .nil)) .nil) .nil) .nil)
def f1 : Fn := ⟨"check_most", "check_most", true, 3, ["value", "most", "what"], b1, true⟩
/-- check_stops(stops): 0 stops 1 place -/
def b2_1 : Sms := (.cons (.ite (.cmp .lt (.ix (.v 0) (.v 1)) (.int 1)) (.cons (.rais 1 (.cons (.str "stop") (.cons (.v 1) .nil))) .nil) .nil) .nil)
def b2 : Sms := (.cons (.fo (.n 1) (.rng1 (.bi .len (.cons (.v 0) .nil))) b2_1) .nil)
def f2 : Fn := ⟨"check_stops", "check_stops", true, 1, ["stops", "place"], b2, true⟩
/-- check_bench(rows, stops): 0 rows 1 stops 2 row 3 number 4 place 5 set_up 6 sections 7 due -/
def b3_1 : Sms := (.cons (.asg (.t [5, 6, 7]) (.ix (.v 0) (.v 4))) (.cons (.ite (.tor (.cons (.cmp .lt (.v 5) (.int 0)) (.cons (.cmp .lt (.v 7) (.int 1)) (.cons (.cmp .eq (.v 6) (.tup .nil)) (.cons (.cmp .lt (.bi .min1 (.cons (.v 6) .nil)) (.int 1)) .nil))))) (.cons (.rais 1 (.cons (.str "job") (.cons (.v 4) .nil))) .nil) .nil) .nil))
def b3_2 : Sms := (.cons (.ex (.call 1 (.cons (.v 3) (.cons (.bin .pow (.int 10) (.int 6)) (.cons (.str "length") .nil))))) .nil)
def b3_3 : Sms := (.cons (.ex (.call 1 (.cons (.v 3) (.cons (.bin .pow (.int 10) (.int 6)) (.cons (.str "length") .nil))))) .nil)
def b3_4 : Sms := (.cons (.fo (.n 3) (.val (.bin .add (.lst false (.cons (.ix (.v 2) (.int 0)) (.cons (.ix (.v 2) (.int 2)) .nil))) (.bi (.list false) (.cons (.ix (.v 2) (.int 1)) .nil)))) b3_3) .nil)
def b3_5 : Sms := (.cons (.ex (.call 1 (.cons (.bi .len (.cons (.ix (.v 2) (.int 1)) .nil)) (.cons (.int 8) (.cons (.str "sections") .nil))))) .nil)
def b3 : Sms := (.cons (.ex (.call 1 (.cons (.bi .len (.cons (.v 0) .nil)) (.cons (.int 12) (.cons (.str "jobs") .nil))))) (.cons (.fo (.n 2) (.val (.v 0)) b3_5) (.cons (.fo (.n 2) (.val (.v 0)) b3_4) (.cons (.fo (.n 3) (.val (.v 1)) b3_2) (.cons (.ex (.call 1 (.cons (.bi .len (.cons (.v 1) .nil)) (.cons (.int 8) (.cons (.str "stops") .nil))))) (.cons (.fo (.n 4) (.rng1 (.bi .len (.cons (.v 0) .nil))) b3_1) (.cons (.ex (.call 2 (.cons (.v 1) .nil))) .nil)))))))
def f3 : Fn := ⟨"check_bench", "check_bench", true, 2, ["rows", "stops", "row", "number", "place", "set_up", "sections", "due"], b3, true⟩
/-- check_released(rows, stops): 0 rows 1 stops 2 row 3 number 4 place 5 release 6 hours 7 due -/
def b4_1 : Sms := (.cons (.asg (.t [5, 6, 7]) (.ix (.v 0) (.v 4))) (.cons (.ite (.tor (.cons (.cmp .lt (.v 5) (.int 0)) (.cons (.cmp .lt (.v 6) (.int 1)) (.cons (.cmp .lt (.v 7) (.int 1)) .nil)))) (.cons (.rais 1 (.cons (.str "job") (.cons (.v 4) .nil))) .nil) .nil) .nil))
def b4_2 : Sms := (.cons (.ex (.call 1 (.cons (.v 3) (.cons (.bin .pow (.int 10) (.int 6)) (.cons (.str "length") .nil))))) .nil)
def b4_3 : Sms := (.cons (.ex (.call 1 (.cons (.v 3) (.cons (.bin .pow (.int 10) (.int 6)) (.cons (.str "length") .nil))))) .nil)
def b4_4 : Sms := (.cons (.fo (.n 3) (.val (.v 2)) b4_3) .nil)
def b4 : Sms := (.cons (.ex (.call 1 (.cons (.bi .len (.cons (.v 0) .nil)) (.cons (.int 12) (.cons (.str "jobs") .nil))))) (.cons (.fo (.n 2) (.val (.v 0)) b4_4) (.cons (.fo (.n 3) (.val (.v 1)) b4_2) (.cons (.ex (.call 1 (.cons (.bi .len (.cons (.v 1) .nil)) (.cons (.int 8) (.cons (.str "stops") .nil))))) (.cons (.fo (.n 4) (.rng1 (.bi .len (.cons (.v 0) .nil))) b4_1) (.cons (.ex (.call 2 (.cons (.v 1) .nil))) .nil))))))
def f4 : Fn := ⟨"check_released", "check_released", true, 2, ["rows", "stops", "row", "number", "place", "release", "hours", "due"], b4, true⟩
/-- released_word(jobs, stops): 0 jobs 1 stops 2 rows 3 lengths 4 due 5 release 6 row 7 many -/
def b5_1 : Sms := (.cons (.asg (.n 7) (.bi .sum (.cons (.lc false (.n 6) (.val (.v 2)) (.cons (.tand (.cons (.cmp .ge (.ix (.v 6) (.int 0)) (.v 5)) (.cons (.cmp .le (.ix (.v 6) (.int 2)) (.v 4)) .nil))) .nil) (.ix (.v 6) (.int 1))) .nil))) (.cons (.ite (.tand (.cons (.cmp .gt (.v 7) (.int 0)) (.cons (.cmp .gt (.bin .add (.v 7) (.bi .sum (.cons (.v 3) .nil))) (.bin .sub (.v 4) (.v 5))) .nil))) (.cons (.ret (.tup (.cons (.str "late") (.cons (.v 5) (.cons (.v 4) (.cons (.bin .add (.v 7) (.bi .sum (.cons (.v 3) .nil))) .nil)))))) .nil) .nil) .nil))
def b5_2 : Sms := (.cons (.fo (.n 5) (.val (.bi .sorted (.cons (.lc false (.n 6) (.val (.v 2)) .nil (.ix (.v 6) (.int 0))) .nil))) b5_1) .nil)
def b5 : Sms := (.cons (.asg (.n 2) (.lc false (.n 6) (.val (.v 0)) .nil (.bi .tuple (.cons (.v 6) .nil)))) (.cons (.asg (.n 3) (.bi (.list false) (.cons (.v 1) .nil))) (.cons (.ex (.call 4 (.cons (.v 2) (.cons (.v 3) .nil)))) (.cons (.fo (.n 4) (.val (.bi .sorted (.cons (.lc false (.n 6) (.val (.v 2)) .nil (.ix (.v 6) (.int 2))) .nil))) b5_2) (.cons (.ret (.tup (.cons (.str "kept") .nil))) .nil)))))
def f5 : Fn := ⟨"released_word", "released_word", true, 2, ["jobs", "stops", "rows", "lengths", "due", "release", "row", "many"], b5, true⟩
/-- _law_purse(script, at): 0 script 1 at 2 cell 3 size 4 one -/
def b6 : Sms := (.cons (.asg (.n 2) (.ife (.cmp .lt (.v 1) (.bi .len (.cons (.v 0) .nil))) (.bi .int (.cons (.ix (.v 0) (.v 1)) .nil)) (.bin .mul (.int 31) (.bi .sum (.cons (.lc false (.n 4) (.val (.sl (.v 0) .no (.so (.int 4)))) .nil (.bi .int (.cons (.v 4) .nil))) .nil))))) (.cons (.asg (.n 3) (.bin .add (.bin .mul (.int 2) (.bi .abs (.cons (.v 2) .nil))) (.ife (.cmp .lt (.v 2) (.int 0)) (.int 1) (.int 0)))) (.cons (.ret (.lst true (.cons (.ife (.cmp .ge (.v 3) (.bin .pow (.int 10) (.int 18))) (.v 3) (.int 0)) (.cons (.bin .mod (.bi .int (.cons (.bin .add (.bin .add (.v 3) (.bin .mul (.v 1) (.int 104729))) (.int 12345)) .nil)) (.int 2147483629)) (.cons (.v 1) .nil))))) .nil)))
def f6 : Fn := ⟨"_law_purse", "_law_purse", true, 2, ["script", "at", "cell", "size", "one"], b6, true⟩
/-- _law_draw(purse, many): 0 purse 1 many 2 found -/
def b7 : Sms := (.cons (.ite (.cmp .gt (.ix (.v 0) (.int 0)) (.int 0)) (.cons (.asg (.n 2) (.bin .mod (.bi .int (.cons (.ix (.v 0) (.int 0)) .nil)) (.v 1))) (.cons (.asgI (.v 0) (.int 0) (.bin .fdiv (.ix (.v 0) (.int 0)) (.v 1))) (.cons (.ret (.v 2)) .nil))) .nil) (.cons (.augI (.v 0) (.int 2) .add (.int 1)) (.cons (.asgI (.v 0) (.int 1) (.bin .mod (.bi .int (.cons (.bin .add (.bin .mul (.ix (.v 0) (.int 1)) (.int 48271)) (.bin .mul (.ix (.v 0) (.int 2)) (.int 69621))) .nil)) (.int 2147483647))) (.cons (.ret (.bin .mod (.bin .fdiv (.bin .mod (.bi .int (.cons (.bin .add (.bin .mul (.ix (.v 0) (.int 1)) (.int 16807)) (.bin .mul (.ix (.v 0) (.int 2)) (.int 7919))) .nil)) (.int 2147483629)) (.int 8)) (.v 1))) .nil))))
def f7 : Fn := ⟨"_law_draw", "_law_draw", true, 2, ["purse", "many", "found"], b7, true⟩
/-- _law_mix(purse, things): 0 purse 1 things 2 left 3 mixed 4 turn -/
def b8_1 : Sms := (.cons (.ex (.bm .append (.v 3) (.cons (.bm .popAt (.v 2) (.cons (.call 7 (.cons (.v 0) (.cons (.bi .len (.cons (.v 2) .nil)) .nil))) .nil)) .nil))) .nil)
def b8 : Sms := (.cons (.asg (.n 2) (.bi (.list true) (.cons (.v 1) .nil))) (.cons (.asg (.n 3) (.lst true .nil)) (.cons (.fo (.n 4) (.rng1 (.bi .len (.cons (.v 1) .nil))) b8_1) (.cons (.ret (.frz (.v 3))) .nil))))
def f8 : Fn := ⟨"_law_mix", "_law_mix", true, 2, ["purse", "things", "left", "mixed", "turn"], b8, true⟩
/-- _law_need(rows, stops, due): 0 rows 1 stops 2 due 3 hours 4 greatest 5 set_up 6 sections 7 last -/
def b9_1 : Sms := (.cons (.ite (.cmp .le (.v 7) (.v 2)) (.cons (.asg (.n 3) (.bin .add (.bin .add (.v 3) (.v 5)) (.bi .sum (.cons (.v 6) .nil)))) (.cons (.asg (.n 4) (.bi .max2 (.cons (.v 4) (.cons (.bin .add (.v 5) (.bi .max1 (.cons (.v 6) .nil))) .nil)))) .nil)) .nil) .nil)
def b9 : Sms := (.cons (.asg (.n 3) (.int 0)) (.cons (.asg (.n 4) (.int 0)) (.cons (.fo (.t [5, 6, 7]) (.val (.v 0)) b9_1) (.cons (.ret (.bin .add (.bin .sub (.bin .add (.v 3) (.bi .sum (.cons (.v 1) .nil))) (.bi .len (.cons (.v 1) .nil))) (.bin .mul (.bi .len (.cons (.v 1) .nil)) (.v 4)))) .nil))))
def f9 : Fn := ⟨"_law_need", "_law_need", true, 3, ["rows", "stops", "due", "hours", "greatest", "set_up", "sections", "last"], b9, true⟩
/-- _law_word(rows, stops): 0 rows 1 stops 2 due 3 row -/
def b10_1 : Sms := (.cons (.ite (.cmp .gt (.call 9 (.cons (.v 0) (.cons (.v 1) (.cons (.v 2) .nil)))) (.v 2)) (.cons (.ret (.tup (.cons (.str "late") (.cons (.v 2) (.cons (.call 9 (.cons (.v 0) (.cons (.v 1) (.cons (.v 2) .nil)))) .nil))))) .nil) .nil) .nil)
def b10 : Sms := (.cons (.fo (.n 2) (.val (.bi .sorted (.cons (.lc false (.n 3) (.val (.v 0)) .nil (.ix (.v 3) (.int 2))) .nil))) b10_1) (.cons (.ret (.tup (.cons (.str "kept") .nil))) .nil))
def f10 : Fn := ⟨"_law_word", "_law_word", true, 2, ["rows", "stops", "due", "row"], b10, true⟩
/-- _law_bare_jobs(purse, many): 0 purse 1 many 2 jobs 3 turn 4 sections 5 part -/
def b11_1 : Sms := (.cons (.asg (.n 4) (.lc true (.n 5) (.rng1 (.ife (.cmp .eq (.call 7 (.cons (.v 0) (.cons (.int 16) .nil))) (.int 0)) (.int 8) (.bin .add (.int 1) (.call 7 (.cons (.v 0) (.cons (.int 3) .nil)))))) .nil (.bin .add (.int 1) (.call 7 (.cons (.v 0) (.cons (.int 5) .nil)))))) (.cons (.ite (.cmp .eq (.v 3) (.int 0)) (.cons (.asgI (.v 4) (.int 0) (.bin .add (.ix (.v 4) (.int 0)) (.int 1))) .nil) .nil) (.cons (.ex (.bm .append (.v 2) (.cons (.lst false (.cons (.call 7 (.cons (.v 0) (.cons (.int 4) .nil))) (.cons (.frz (.v 4)) .nil))) .nil))) .nil)))
def b11 : Sms := (.cons (.asg (.n 2) (.lst true .nil)) (.cons (.fo (.n 3) (.rng1 (.v 1)) b11_1) (.cons (.ret (.frz (.v 2))) .nil)))
def f11 : Fn := ⟨"_law_bare_jobs", "_law_bare_jobs", true, 2, ["purse", "many", "jobs", "turn", "sections", "part"], b11, true⟩
/-- _law_dued(purse, jobs, stops, unit): 0 purse 1 jobs 2 stops 3 unit 4 bare 5 needs 6 at 7 tight 8 dues 9 kept 10 late 11 order 12 due 13 job 14 length -/
def b12_1 : Sms := (.cons (.asg (.n 12) (.ife (.cmp .le (.v 6) (.v 7)) (.bi .min2 (.cons (.ix (.v 8) (.v 6)) (.cons (.bin .sub (.ix (.v 5) (.v 7)) (.int 1)) .nil))) (.ix (.v 8) (.v 6)))) (.cons (.ex (.bm .append (.v 10) (.cons (.tup (.cons (.ix (.ix (.v 4) (.v 6)) (.int 0)) (.cons (.ix (.ix (.v 4) (.v 6)) (.int 1)) (.cons (.v 12) .nil)))) .nil))) .nil))
def b12_2 : Sms := (.cons (.asg (.n 12) (.bin .add (.ix (.v 5) (.v 6)) (.ife (.cmp .eq (.v 6) (.v 7)) (.int 0) (.call 7 (.cons (.v 0) (.cons (.bin .mul (.int 3) (.v 3)) .nil)))))) (.cons (.ex (.bm .append (.v 8) (.cons (.ife (.cmp .lt (.v 6) (.v 7)) (.bi .min2 (.cons (.v 12) (.cons (.ix (.v 5) (.v 7)) .nil))) (.v 12)) .nil))) .nil))
def b12_3 : Sms := (.cons (.ex (.bm .append (.v 5) (.cons (.call 9 (.cons (.lc false (.n 13) (.val (.sl (.v 4) .no (.so (.bin .add (.v 6) (.int 1))))) .nil (.tup (.cons (.ix (.v 13) (.int 0)) (.cons (.ix (.v 13) (.int 1)) (.cons (.int 1) .nil))))) (.cons (.v 2) (.cons (.int 1) .nil)))) .nil))) .nil)
def b12 : Sms := (.cons (.asg (.n 4) (.lc false (.n 13) (.val (.v 1)) .nil (.tup (.cons (.bin .mul (.v 3) (.ix (.v 13) (.int 0))) (.cons (.lc false (.n 14) (.val (.ix (.v 13) (.int 1))) .nil (.bin .mul (.v 3) (.v 14))) .nil))))) (.cons (.asg (.n 5) (.lst true .nil)) (.cons (.fo (.n 6) (.rng1 (.bi .len (.cons (.v 4) .nil))) b12_3) (.cons (.asg (.n 7) (.call 7 (.cons (.v 0) (.cons (.bi .len (.cons (.v 4) .nil)) .nil)))) (.cons (.asg (.n 8) (.lst true .nil)) (.cons (.fo (.n 6) (.rng1 (.bi .len (.cons (.v 4) .nil))) b12_2) (.cons (.asg (.n 9) (.lc false (.n 6) (.rng1 (.bi .len (.cons (.v 4) .nil))) .nil (.tup (.cons (.ix (.ix (.v 4) (.v 6)) (.int 0)) (.cons (.ix (.ix (.v 4) (.v 6)) (.int 1)) (.cons (.ix (.v 8) (.v 6)) .nil)))))) (.cons (.asg (.n 10) (.lst true .nil)) (.cons (.fo (.n 6) (.rng1 (.bi .len (.cons (.v 4) .nil))) b12_1) (.cons (.asg (.n 11) (.call 8 (.cons (.v 0) (.cons (.lrg false (.bi .len (.cons (.v 4) .nil))) .nil)))) (.cons (.ret (.lst false (.cons (.lc false (.n 6) (.val (.v 11)) .nil (.ix (.v 9) (.v 6))) (.cons (.lc false (.n 6) (.val (.v 11)) .nil (.ix (.v 10) (.v 6))) .nil)))) .nil)))))))))))
def f12 : Fn := ⟨"_law_dued", "_law_dued", true, 4, ["purse", "jobs", "stops", "unit", "bare", "needs", "at", "tight", "dues", "kept", "late", "order", "due", "job", "length"], b12, true⟩
/-- _law_made(jobs, stops): 0 jobs 1 stops 2 e 3 bench -/
def b13 : Sms := (.cons (.tr (.cons (.asg (.n 3) (.mk 0 (.cons (.v 0) (.cons (.v 1) .nil)))) .nil) [(1, 2, (.tup (.cons (.str "bad") (.cons (.fld 1) (.cons (.fld 0) .nil))))), (0, 2, (.tup (.cons (.str "many") (.cons (.fld 1) .nil))))]) (.cons (.ret (.tup (.cons (.str "bench") (.cons (.v 3) .nil)))) .nil))
def f13 : Fn := ⟨"_law_made", "_law_made", true, 2, ["jobs", "stops", "e", "bench"], b13, true⟩
/-- _law_asked(rows, stops, word): 0 rows 1 stops 2 word 3 handed 4 lengths 5 made 6 row 7 bench 8 turn 9 told 10 shown 11 more -/
def b14_1 : Sms := (.cons (.asg (.n 9) (.meth (.v 7) 4 .nil)) (.cons (.ite (.tor (.cons (.tnot (.val (.isi (.v 9) .tuple))) (.cons (.cmp .ne (.v 9) (.v 2)) .nil))) (.cons (.ret (.bl false)) .nil) .nil) (.cons (.asg (.n 10) (.meth (.v 7) 3 .nil)) (.cons (.ite (.tor (.cons (.tnot (.val (.isi (.v 10) .list))) (.cons (.cmp .ne (.v 10) (.lc false (.n 6) (.val (.v 0)) .nil (.tup (.cons (.ix (.v 6) (.int 0)) (.cons (.bi .tuple (.cons (.ix (.v 6) (.int 1)) .nil)) (.cons (.ix (.v 6) (.int 2)) .nil)))))) (.cons (.cmp .ne (.meth (.v 7) 2 .nil) (.v 1)) .nil)))) (.cons (.ret (.bl false)) .nil) .nil) (.cons (.ite (.tnot (.val (.isi (.meth (.v 7) 2 .nil) .list))) (.cons (.ret (.bl false)) .nil) .nil) (.cons (.ex (.bm .append (.v 10) (.cons (.tup (.cons (.int 0) (.cons (.tup (.cons (.int 1) .nil)) (.cons (.int 1) .nil)))) .nil))) (.cons (.asg (.n 11) (.meth (.v 7) 2 .nil)) (.cons (.ex (.bm .append (.v 11) (.cons (.int 9) .nil))) .nil))))))))
def b14_2 : Sms := (.cons (.ex (.bm .append (.ix (.v 6) (.int 1)) (.cons (.int 7) .nil))) .nil)
def b14 : Sms := (.cons (.asg (.n 3) (.lc true (.n 6) (.val (.v 0)) .nil (.tup (.cons (.ix (.v 6) (.int 0)) (.cons (.bi (.list true) (.cons (.ix (.v 6) (.int 1)) .nil)) (.cons (.ix (.v 6) (.int 2)) .nil)))))) (.cons (.asg (.n 4) (.bi (.list true) (.cons (.v 1) .nil))) (.cons (.asg (.n 5) (.call 13 (.cons (.v 3) (.cons (.v 4) .nil)))) (.cons (.ite (.cmp .ne (.ix (.v 5) (.int 0)) (.str "bench")) (.cons (.ret (.bl false)) .nil) .nil) (.cons (.fo (.n 6) (.val (.v 3)) b14_2) (.cons (.ex (.bm .append (.v 3) (.cons (.tup (.cons (.int 1) (.cons (.lst false (.cons (.int 1) .nil)) (.cons (.int 1) .nil)))) .nil))) (.cons (.ex (.bm .append (.v 4) (.cons (.int 5) .nil))) (.cons (.asg (.n 7) (.ix (.v 5) (.int 1))) (.cons (.fo (.n 8) (.rng1 (.int 2)) b14_1) (.cons (.ret (.bl true)) .nil))))))))))
def f14 : Fn := ⟨"_law_asked", "_law_asked", true, 3, ["rows", "stops", "word", "handed", "lengths", "made", "row", "bench", "turn", "told", "shown", "more"], b14, true⟩
/-- _law_wrong_job(purse, row): 0 purse 1 row 2 at 3 spoilt 4 kinds 5 set_up 6 sections 7 due -/
def b15 : Sms := (.cons (.asg (.t [5, 6, 7]) (.v 1)) (.cons (.asg (.n 2) (.call 7 (.cons (.v 0) (.cons (.bi .len (.cons (.v 6) .nil)) .nil)))) (.cons (.asg (.n 3) (.bin .add (.bin .add (.sl (.v 6) .no (.so (.v 2))) (.lst false (.cons (.bin .sub (.int 0) (.call 7 (.cons (.v 0) (.cons (.int 2) .nil)))) .nil))) (.sl (.v 6) (.so (.bin .add (.v 2) (.int 1))) .no))) (.cons (.asg (.n 4) (.lst false (.cons (.tup (.cons (.bin .sub (.neg (.int 1)) (.call 7 (.cons (.v 0) (.cons (.int 3) .nil)))) (.cons (.v 6) (.cons (.v 7) .nil)))) (.cons (.tup (.cons (.v 5) (.cons (.lst false .nil) (.cons (.v 7) .nil)))) (.cons (.tup (.cons (.v 5) (.cons (.v 3) (.cons (.v 7) .nil)))) (.cons (.tup (.cons (.v 5) (.cons (.v 6) (.cons (.bin .sub (.int 0) (.call 7 (.cons (.v 0) (.cons (.int 2) .nil)))) .nil)))) .nil)))))) (.cons (.ret (.ix (.v 4) (.call 7 (.cons (.v 0) (.cons (.int 4) .nil))))) .nil)))))
def f15 : Fn := ⟨"_law_wrong_job", "_law_wrong_job", true, 2, ["purse", "row", "at", "spoilt", "kinds", "set_up", "sections", "due"], b15, true⟩
/-- _law_refused(purse, rows, stops): 0 purse 1 rows 2 stops 3 at 4 spoilt 5 place 6 wrong -/
def b16 : Sms := (.cons (.asg (.n 3) (.call 7 (.cons (.v 0) (.cons (.bi .len (.cons (.v 1) .nil)) .nil)))) (.cons (.asg (.n 4) (.bin .add (.bin .add (.sl (.v 1) .no (.so (.v 3))) (.lst false (.cons (.call 15 (.cons (.v 0) (.cons (.ix (.v 1) (.v 3)) .nil))) .nil))) (.sl (.v 1) (.so (.bin .add (.v 3) (.int 1))) .no))) (.cons (.ite (.cmp .ne (.call 13 (.cons (.v 4) (.cons (.v 2) .nil))) (.tup (.cons (.str "bad") (.cons (.str "job") (.cons (.v 3) .nil))))) (.cons (.ret (.bl false)) .nil) .nil) (.cons (.ite (.cmp .ne (.call 13 (.cons (.bin .add (.bin .add (.sl (.v 4) .no (.so (.bin .add (.v 3) (.int 1)))) (.sl (.lst false (.cons (.tup (.cons (.neg (.int 1)) (.cons (.lst false .nil) (.cons (.int 0) .nil)))) .nil)) .no (.so (.bin .sub (.int 12) (.bi .len (.cons (.v 1) .nil)))))) (.sl (.v 4) (.so (.bin .add (.v 3) (.int 1))) .no)) (.cons (.bin .add (.v 2) (.lst false (.cons (.int 0) .nil))) .nil))) (.tup (.cons (.str "bad") (.cons (.str "job") (.cons (.v 3) .nil))))) (.cons (.ret (.bl false)) .nil) .nil) (.cons (.asg (.n 5) (.call 7 (.cons (.v 0) (.cons (.bin .add (.bi .len (.cons (.v 2) .nil)) (.int 1)) .nil)))) (.cons (.asg (.n 6) (.bin .add (.bin .add (.sl (.v 2) .no (.so (.v 5))) (.lst false (.cons (.bin .sub (.int 0) (.call 7 (.cons (.v 0) (.cons (.int 2) .nil)))) .nil))) (.sl (.v 2) (.so (.v 5)) .no))) (.cons (.ite (.tor (.cons (.cmp .ne (.call 13 (.cons (.v 1) (.cons (.v 6) .nil))) (.tup (.cons (.str "bad") (.cons (.str "stop") (.cons (.v 5) .nil))))) (.cons (.cmp .ne (.call 13 (.cons (.v 1) (.cons (.bin .add (.v 6) (.lst false (.cons (.neg (.int 1)) .nil))) .nil))) (.tup (.cons (.str "bad") (.cons (.str "stop") (.cons (.v 5) .nil))))) .nil))) (.cons (.ret (.bl false)) .nil) .nil) (.cons (.ret (.andV (.cons (.cmp .eq (.ix (.call 13 (.cons (.v 1) (.cons (.v 2) .nil))) (.int 0)) (.str "bench")) (.cons (.cmp .eq (.ix (.call 13 (.cons (.lst false .nil) (.cons (.lst false (.cons (.int 1) .nil)) .nil))) (.int 0)) (.str "bench")) .nil)))) .nil))))))))
def f16 : Fn := ⟨"_law_refused", "_law_refused", true, 3, ["purse", "rows", "stops", "at", "spoilt", "place", "wrong"], b16, true⟩
/-- _law_bounded(purse): 0 purse 1 job 2 most 3 greats 4 great 5 more -/
def b17 : Sms := (.cons (.asg (.n 1) (.tup (.cons (.int 0) (.cons (.lst false (.cons (.int 1) .nil)) (.cons (.int 99) .nil))))) (.cons (.ite (.tor (.cons (.cmp .ne (.ix (.call 13 (.cons (.bin .mul (.lst false (.cons (.v 1) .nil)) (.int 12)) (.cons (.bin .mul (.lst false (.cons (.int 1) .nil)) (.int 8)) .nil))) (.int 0)) (.str "bench")) (.cons (.cmp .ne (.call 13 (.cons (.bin .mul (.lst false (.cons (.v 1) .nil)) (.int 13)) (.cons (.lst false .nil) .nil))) (.tup (.cons (.str "many") (.cons (.str "jobs") .nil)))) .nil))) (.cons (.ret (.bl false)) .nil) .nil) (.cons (.ite (.tor (.cons (.cmp .ne (.ix (.call 13 (.cons (.lst false (.cons (.tup (.cons (.int 0) (.cons (.bin .mul (.lst false (.cons (.int 1) .nil)) (.int 8)) (.cons (.int 99) .nil)))) .nil)) (.cons (.lst false .nil) .nil))) (.int 0)) (.str "bench")) (.cons (.cmp .ne (.call 13 (.cons (.lst false (.cons (.v 1) (.cons (.tup (.cons (.int 0) (.cons (.bin .mul (.lst false (.cons (.int 1) .nil)) (.int 9)) (.cons (.int 99) .nil)))) .nil))) (.cons (.lst false (.cons (.int 0) .nil)) .nil))) (.tup (.cons (.str "many") (.cons (.str "sections") .nil)))) .nil))) (.cons (.ret (.bl false)) .nil) .nil) (.cons (.ite (.cmp .ne (.call 13 (.cons (.bin .add (.bin .mul (.lst false (.cons (.tup (.cons (.int 0) (.cons (.lst false .nil) (.cons (.int 99) .nil)))) .nil)) (.int 13)) (.lst false (.cons (.tup (.cons (.int 0) (.cons (.bin .mul (.lst false (.cons (.int 1) .nil)) (.int 9)) (.cons (.int 99) .nil)))) .nil))) (.cons (.bin .mul (.lst false (.cons (.int 1) .nil)) (.int 9)) .nil))) (.tup (.cons (.str "many") (.cons (.str "jobs") .nil)))) (.cons (.ret (.bl false)) .nil) .nil) (.cons (.asg (.n 2) (.bin .pow (.int 10) (.int 6))) (.cons (.asg (.n 3) (.lst false (.cons (.tup (.cons (.v 2) (.cons (.lst false (.cons (.int 1) .nil)) (.cons (.int 5) .nil)))) (.cons (.tup (.cons (.int 0) (.cons (.lst false (.cons (.int 1) (.cons (.v 2) .nil))) (.cons (.int 5) .nil)))) (.cons (.tup (.cons (.int 0) (.cons (.lst false (.cons (.int 1) .nil)) (.cons (.v 2) .nil)))) (.cons (.tup (.cons (.int 0) (.cons (.lst false (.cons (.v 2) (.cons (.int 1) .nil))) (.cons (.int 5) .nil)))) .nil)))))) (.cons (.asg (.n 4) (.ix (.v 3) (.call 7 (.cons (.v 0) (.cons (.int 4) .nil))))) (.cons (.ite (.cmp .ne (.ix (.call 13 (.cons (.lst false (.cons (.v 4) .nil)) (.cons (.lst false (.cons (.v 2) .nil)) .nil))) (.int 0)) (.str "bench")) (.cons (.ret (.bl false)) .nil) .nil) (.cons (.asg (.n 5) (.ix (.lst false (.cons (.tup (.cons (.bin .add (.v 2) (.int 1)) (.cons (.lst false (.cons (.int 1) .nil)) (.cons (.int 5) .nil)))) (.cons (.tup (.cons (.int 0) (.cons (.lst false (.cons (.int 1) (.cons (.bin .add (.v 2) (.int 1)) .nil))) (.cons (.int 5) .nil)))) (.cons (.tup (.cons (.int 0) (.cons (.lst false (.cons (.int 1) .nil)) (.cons (.bin .add (.v 2) (.int 1)) .nil)))) .nil)))) (.call 7 (.cons (.v 0) (.cons (.int 3) .nil))))) (.cons (.ite (.tor (.cons (.cmp .ne (.call 13 (.cons (.lst false (.cons (.v 1) (.cons (.v 5) .nil))) (.cons (.bin .mul (.lst false (.cons (.int 1) .nil)) (.int 9)) .nil))) (.tup (.cons (.str "many") (.cons (.str "length") .nil)))) (.cons (.cmp .ne (.call 13 (.cons (.lst false (.cons (.tup (.cons (.int 0) (.cons (.lst false .nil) (.cons (.int 0) .nil)))) .nil)) (.cons (.lst false (.cons (.int 1) (.cons (.bin .add (.v 2) (.int 1)) .nil))) .nil))) (.tup (.cons (.str "many") (.cons (.str "length") .nil)))) .nil))) (.cons (.ret (.bl false)) .nil) .nil) (.cons (.ret (.andV (.cons (.cmp .eq (.call 13 (.cons (.lst false (.cons (.v 1) .nil)) (.cons (.bin .mul (.lst false (.cons (.int 1) .nil)) (.int 9)) .nil))) (.tup (.cons (.str "many") (.cons (.str "stops") .nil)))) (.cons (.cmp .eq (.call 13 (.cons (.lst false (.cons (.tup (.cons (.int 0) (.cons (.lst false .nil) (.cons (.int 0) .nil)))) .nil)) (.cons (.bin .mul (.lst false (.cons (.int 0) .nil)) (.int 9)) .nil))) (.tup (.cons (.str "many") (.cons (.str "stops") .nil)))) .nil)))) .nil)))))))))))
def f17 : Fn := ⟨"_law_bounded", "_law_bounded", true, 1, ["purse", "job", "most", "greats", "great", "more"], b17, true⟩
/-- _law_released(rows, stops): 0 rows 1 stops 2 due 3 release 4 inside 5 row -/
def b18_1 : Sms := (.cons (.asg (.n 4) (.lc false (.n 5) (.val (.v 0)) (.cons (.tand (.cons (.cmp .ge (.ix (.v 5) (.int 0)) (.v 3)) (.cons (.cmp .le (.ix (.v 5) (.int 2)) (.v 2)) .nil))) .nil) (.ix (.v 5) (.int 1)))) (.cons (.ite (.tand (.cons (.cmp .ne (.v 4) (.lst false .nil)) (.cons (.cmp .gt (.bin .add (.bi .sum (.cons (.v 4) .nil)) (.bi .sum (.cons (.v 1) .nil))) (.bin .sub (.v 2) (.v 3))) .nil))) (.cons (.ret (.tup (.cons (.str "late") (.cons (.v 3) (.cons (.v 2) (.cons (.bin .add (.bi .sum (.cons (.v 4) .nil)) (.bi .sum (.cons (.v 1) .nil))) .nil)))))) .nil) .nil) .nil))
def b18_2 : Sms := (.cons (.fo (.n 3) (.val (.bi .sorted (.cons (.lc false (.n 5) (.val (.v 0)) .nil (.ix (.v 5) (.int 0))) .nil))) b18_1) .nil)
def b18 : Sms := (.cons (.fo (.n 2) (.val (.bi .sorted (.cons (.lc false (.n 5) (.val (.v 0)) .nil (.ix (.v 5) (.int 2))) .nil))) b18_2) (.cons (.ret (.tup (.cons (.str "kept") .nil))) .nil))
def f18 : Fn := ⟨"_law_released", "_law_released", true, 2, ["rows", "stops", "due", "release", "inside", "row"], b18, true⟩
/-- _law_released_told(rows, stops): 0 rows 1 stops 2 e 3 told -/
def b19 : Sms := (.cons (.tr (.cons (.asg (.n 3) (.call 5 (.cons (.v 0) (.cons (.v 1) .nil)))) .nil) [(1, 2, (.tup (.cons (.str "bad") (.cons (.fld 1) (.cons (.fld 0) .nil))))), (0, 2, (.tup (.cons (.str "many") (.cons (.fld 1) .nil))))]) (.cons (.ret (.v 3)) .nil))
def f19 : Fn := ⟨"_law_released_told", "_law_released_told", true, 2, ["rows", "stops", "e", "told"], b19, true⟩
/-- _law_releases(purse, stops, unit): 0 purse 1 stops 2 unit 3 bare 4 turn 5 total 6 latest 7 kept 8 drawn 9 at 10 late 11 row -/
def b20_1 : Sms := (.cons (.ex (.bm .append (.v 3) (.cons (.tup (.cons (.bin .mul (.call 7 (.cons (.v 0) (.cons (.int 7) .nil))) (.v 2)) (.cons (.bin .mul (.bin .add (.int 1) (.call 7 (.cons (.v 0) (.cons (.int 4) .nil)))) (.v 2)) .nil))) .nil))) .nil)
def b20 : Sms := (.cons (.asg (.n 3) (.lst true .nil)) (.cons (.fo (.n 4) (.rng1 (.bin .add (.int 1) (.call 7 (.cons (.v 0) (.cons (.int 5) .nil))))) b20_1) (.cons (.asg (.n 5) (.bin .add (.bi .sum (.cons (.lc false (.n 11) (.val (.v 3)) .nil (.ix (.v 11) (.int 1))) .nil)) (.bi .sum (.cons (.v 1) .nil)))) (.cons (.asg (.n 6) (.bi .max1 (.cons (.lc false (.n 11) (.val (.v 3)) .nil (.ix (.v 11) (.int 0))) .nil))) (.cons (.asg (.n 7) (.lc false (.n 11) (.val (.v 3)) .nil (.tup (.cons (.ix (.v 11) (.int 0)) (.cons (.ix (.v 11) (.int 1)) (.cons (.bin .add (.bin .add (.v 6) (.v 5)) (.call 7 (.cons (.v 0) (.cons (.int 3) .nil)))) .nil)))))) (.cons (.asg (.n 8) (.lc false (.n 11) (.val (.v 3)) .nil (.tup (.cons (.ix (.v 11) (.int 0)) (.cons (.ix (.v 11) (.int 1)) (.cons (.bin .add (.bin .add (.ix (.v 11) (.int 0)) (.ix (.v 11) (.int 1))) (.call 7 (.cons (.v 0) (.cons (.bin .add (.v 5) (.int 1)) .nil)))) .nil)))))) (.cons (.asg (.n 9) (.call 7 (.cons (.v 0) (.cons (.bi .len (.cons (.v 3) .nil)) .nil)))) (.cons (.asg (.n 10) (.bi (.list true) (.cons (.v 8) .nil))) (.cons (.asgI (.v 10) (.v 9) (.tup (.cons (.ix (.ix (.v 3) (.v 9)) (.int 0)) (.cons (.ix (.ix (.v 3) (.v 9)) (.int 1)) (.cons (.bi .max2 (.cons (.int 1) (.cons (.bin .sub (.bin .add (.bin .add (.ix (.ix (.v 3) (.v 9)) (.int 0)) (.ix (.ix (.v 3) (.v 9)) (.int 1))) (.bi .sum (.cons (.v 1) .nil))) (.int 1)) .nil))) .nil))))) (.cons (.ite (.cmp .lt (.bin .sub (.bin .add (.bin .add (.ix (.ix (.v 3) (.v 9)) (.int 0)) (.ix (.ix (.v 3) (.v 9)) (.int 1))) (.bi .sum (.cons (.v 1) .nil))) (.int 1)) (.int 1)) (.cons (.asgI (.v 10) (.v 9) (.tup (.cons (.ix (.ix (.v 3) (.v 9)) (.int 0)) (.cons (.int 2) (.cons (.int 1) .nil))))) .nil) .nil) (.cons (.ret (.lst false (.cons (.v 7) (.cons (.v 8) (.cons (.frz (.v 10)) .nil))))) .nil)))))))))))
def f20 : Fn := ⟨"_law_releases", "_law_releases", true, 3, ["purse", "stops", "unit", "bare", "turn", "total", "latest", "kept", "drawn", "at", "late", "row"], b20, true⟩
/-- _law_released_right(purse, stops, unit): 0 purse 1 stops 2 unit 3 cases 4 rows 5 at 6 wrong 7 spoilt 8 great 9 handed 10 told 11 release 12 hours 13 due -/
def b21_1 : Sms := (.cons (.asg (.n 9) (.bi (.list false) (.cons (.v 4) .nil))) (.cons (.asg (.n 10) (.call 19 (.cons (.v 9) (.cons (.bi (.list false) (.cons (.v 1) .nil)) .nil)))) (.cons (.ite (.tor (.cons (.tnot (.val (.isi (.v 10) .tuple))) (.cons (.cmp .ne (.v 10) (.call 18 (.cons (.v 4) (.cons (.v 1) .nil)))) (.cons (.cmp .ne (.v 9) (.v 4)) .nil)))) (.cons (.ret (.bl false)) .nil) .nil) .nil)))
def b21 : Sms := (.cons (.asg (.n 3) (.call 20 (.cons (.v 0) (.cons (.v 1) (.cons (.v 2) .nil))))) (.cons (.ite (.tor (.cons (.cmp .ne (.call 18 (.cons (.ix (.v 3) (.int 0)) (.cons (.v 1) .nil))) (.tup (.cons (.str "kept") .nil))) (.cons (.cmp .ne (.ix (.call 18 (.cons (.ix (.v 3) (.int 2)) (.cons (.v 1) .nil))) (.int 0)) (.str "late")) .nil))) (.cons (.ret (.bl false)) .nil) .nil) (.cons (.fo (.n 4) (.val (.v 3)) b21_1) (.cons (.asg (.n 4) (.ix (.v 3) (.int 0))) (.cons (.asg (.n 5) (.call 7 (.cons (.v 0) (.cons (.bi .len (.cons (.v 4) .nil)) .nil)))) (.cons (.asg (.t [11, 12, 13]) (.ix (.v 4) (.v 5))) (.cons (.asg (.n 6) (.ix (.lst false (.cons (.tup (.cons (.neg (.int 1)) (.cons (.v 12) (.cons (.v 13) .nil)))) (.cons (.tup (.cons (.v 11) (.cons (.int 0) (.cons (.v 13) .nil)))) (.cons (.tup (.cons (.v 11) (.cons (.v 12) (.cons (.int 0) .nil)))) .nil)))) (.call 7 (.cons (.v 0) (.cons (.int 3) .nil))))) (.cons (.asg (.n 7) (.bin .add (.bin .add (.sl (.v 4) .no (.so (.v 5))) (.lst false (.cons (.v 6) .nil))) (.sl (.v 4) (.so (.bin .add (.v 5) (.int 1))) .no))) (.cons (.ite (.cmp .ne (.call 19 (.cons (.v 7) (.cons (.bin .add (.v 1) (.lst false (.cons (.int 0) .nil))) .nil))) (.tup (.cons (.str "bad") (.cons (.str "job") (.cons (.v 5) .nil))))) (.cons (.ret (.bl false)) .nil) .nil) (.cons (.ite (.cmp .ne (.call 19 (.cons (.v 4) (.cons (.bin .add (.v 1) (.lst false (.cons (.int 0) .nil))) .nil))) (.tup (.cons (.str "bad") (.cons (.str "stop") (.cons (.bi .len (.cons (.v 1) .nil)) .nil))))) (.cons (.ret (.bl false)) .nil) .nil) (.cons (.ite (.tor (.cons (.cmp .ne (.call 19 (.cons (.bin .mul (.lst false (.cons (.tup (.cons (.int 0) (.cons (.int 1) (.cons (.int 9) .nil)))) .nil)) (.int 13)) (.cons (.lst false (.cons (.int 0) .nil)) .nil))) (.tup (.cons (.str "many") (.cons (.str "jobs") .nil)))) (.cons (.cmp .ne (.call 19 (.cons (.v 7) (.cons (.bin .mul (.lst false (.cons (.int 1) .nil)) (.int 9)) .nil))) (.tup (.cons (.str "many") (.cons (.str "stops") .nil)))) .nil))) (.cons (.ret (.bl false)) .nil) .nil) (.cons (.asg (.n 8) (.ix (.lst false (.cons (.tup (.cons (.bin .add (.bin .pow (.int 10) (.int 6)) (.int 1)) (.cons (.int 1) (.cons (.int 5) .nil)))) (.cons (.tup (.cons (.int 0) (.cons (.bin .add (.bin .pow (.int 10) (.int 6)) (.int 1)) (.cons (.int 5) .nil)))) (.cons (.tup (.cons (.int 0) (.cons (.int 1) (.cons (.bin .add (.bin .pow (.int 10) (.int 6)) (.int 1)) .nil)))) .nil)))) (.call 7 (.cons (.v 0) (.cons (.int 3) .nil))))) (.cons (.ret (.cmp .eq (.call 19 (.cons (.bin .add (.v 7) (.lst false (.cons (.v 8) .nil))) (.cons (.lst false .nil) .nil))) (.tup (.cons (.str "many") (.cons (.str "length") .nil))))) .nil)))))))))))))
def f21 : Fn := ⟨"_law_released_right", "_law_released_right", true, 3, ["purse", "stops", "unit", "cases", "rows", "at", "wrong", "spoilt", "great", "handed", "told", "release", "hours", "due"], b21, true⟩
/-- law(script): 0 script 1 purse 2 many 3 jobs 4 stops 5 unit 6 span 7 kept 8 late 9 turn 10 length 11 job -/
def b22 : Sms := (.cons (.asg (.n 1) (.call 6 (.cons (.v 0) (.cons (.int 0) .nil)))) (.cons (.asg (.n 2) (.ix (.lst false (.cons (.int 1) (.cons (.int 2) (.cons (.int 3) (.cons (.int 4) (.cons (.int 5) (.cons (.int 3) (.cons (.int 2) (.cons (.int 12) .nil))))))))) (.call 7 (.cons (.v 1) (.cons (.int 8) .nil))))) (.cons (.asg (.n 3) (.call 11 (.cons (.v 1) (.cons (.v 2) .nil)))) (.cons (.asg (.n 4) (.lc false (.n 9) (.rng1 (.call 7 (.cons (.v 1) (.cons (.int 4) .nil)))) .nil (.bin .add (.int 1) (.call 7 (.cons (.v 1) (.cons (.int 4) .nil)))))) (.cons (.asg (.n 5) (.int 1)) (.cons (.ite (.cmp .eq (.call 7 (.cons (.v 1) (.cons (.int 4) .nil))) (.int 0)) (.cons (.asg (.n 6) (.bin .add (.bin .add (.call 9 (.cons (.lc false (.n 11) (.val (.v 3)) .nil (.tup (.cons (.ix (.v 11) (.int 0)) (.cons (.ix (.v 11) (.int 1)) (.cons (.int 1) .nil))))) (.cons (.v 4) (.cons (.int 1) .nil)))) (.bi .len (.cons (.v 4) .nil))) (.int 8))) (.cons (.asg (.n 5) (.bin .add (.int 1) (.call 7 (.cons (.v 1) (.cons (.bin .fdiv (.bin .pow (.int 10) (.int 6)) (.v 6)) .nil))))) (.cons (.asg (.n 4) (.lc false (.n 10) (.val (.v 4)) .nil (.bin .mul (.v 5) (.v 10)))) .nil))) .nil) (.cons (.asg (.t [7, 8]) (.call 12 (.cons (.v 1) (.cons (.v 3) (.cons (.v 4) (.cons (.v 5) .nil)))))) (.cons (.ite (.tor (.cons (.cmp .ne (.call 10 (.cons (.v 7) (.cons (.v 4) .nil))) (.tup (.cons (.str "kept") .nil))) (.cons (.cmp .ne (.ix (.call 10 (.cons (.v 8) (.cons (.v 4) .nil))) (.int 0)) (.str "late")) .nil))) (.cons (.ret (.bl false)) .nil) .nil) (.cons (.ite (.tor (.cons (.tnot (.val (.call 14 (.cons (.v 7) (.cons (.v 4) (.cons (.tup (.cons (.str "kept") .nil)) .nil)))))) (.cons (.tnot (.val (.call 14 (.cons (.v 8) (.cons (.v 4) (.cons (.call 10 (.cons (.v 8) (.cons (.v 4) .nil))) .nil)))))) .nil))) (.cons (.ret (.bl false)) .nil) .nil) (.cons (.ite (.tnot (.val (.call 14 (.cons (.lst false .nil) (.cons (.v 4) (.cons (.tup (.cons (.str "kept") .nil)) .nil)))))) (.cons (.ret (.bl false)) .nil) .nil) (.cons (.ite (.tor (.cons (.tnot (.val (.call 16 (.cons (.v 1) (.cons (.v 8) (.cons (.v 4) .nil)))))) (.cons (.tnot (.val (.call 17 (.cons (.v 1) .nil)))) .nil))) (.cons (.ret (.bl false)) .nil) .nil) (.cons (.asg (.n 4) (.lc false (.n 9) (.rng1 (.call 7 (.cons (.v 1) (.cons (.int 3) .nil)))) .nil (.bin .add (.int 1) (.call 7 (.cons (.v 1) (.cons (.int 5) .nil)))))) (.cons (.ret (.call 21 (.cons (.v 1) (.cons (.v 4) (.cons (.ife (.cmp .eq (.call 7 (.cons (.v 1) (.cons (.int 4) .nil))) (.int 0)) (.bin .add (.int 1) (.call 7 (.cons (.v 1) (.cons (.int 30000) .nil)))) (.int 1)) .nil))))) .nil)))))))))))))
def f22 : Fn := ⟨"law", "law", true, 1, ["script", "purse", "many", "jobs", "stops", "unit", "span", "kept", "late", "turn", "length", "job"], b22, true⟩
/-- Bench.__init__(self, jobs, stops): 0 self 1 jobs 2 stops 3 rows 4 lengths 5 row -/
def b23 : Sms := (.cons (.asg (.n 3) (.lc false (.n 5) (.val (.v 1)) .nil (.tup (.cons (.ix (.v 5) (.int 0)) (.cons (.bi .tuple (.cons (.ix (.v 5) (.int 1)) .nil)) (.cons (.ix (.v 5) (.int 2)) .nil)))))) (.cons (.asg (.n 4) (.bi (.list false) (.cons (.v 2) .nil))) (.cons (.ex (.call 3 (.cons (.v 3) (.cons (.v 4) .nil)))) (.cons (.asgF (.v 0) 6 (.v 3)) (.cons (.asgF (.v 0) 5 (.v 4)) .nil)))))
def f23 : Fn := ⟨"__init__", "Bench.__init__", false, 3, ["self", "jobs", "stops", "rows", "lengths", "row"], b23, true⟩
/-- Bench.jobs(self): 0 self -/
def b24 : Sms := (.cons (.ret (.bi (.list true) (.cons (.fld (.v 0) 6) .nil))) .nil)
def f24 : Fn := ⟨"jobs", "Bench.jobs", false, 1, ["self"], b24, true⟩
/-- Bench.stops(self): 0 self -/
def b25 : Sms := (.cons (.ret (.bi (.list true) (.cons (.fld (.v 0) 5) .nil))) .nil)
def f25 : Fn := ⟨"stops", "Bench.stops", false, 1, ["self"], b25, true⟩
/-- Bench.needed(self, due): 0 self 1 due 2 rows 3 hours 4 greatest 5 row 6 length -/
def b26 : Sms := (.cons (.asg (.n 2) (.lc false (.n 5) (.val (.fld (.v 0) 6)) (.cons (.cmp .le (.ix (.v 5) (.int 2)) (.v 1)) .nil) (.v 5))) (.cons (.asg (.n 3) (.bi .sum (.cons (.lc false (.n 5) (.val (.v 2)) .nil (.bin .add (.ix (.v 5) (.int 0)) (.bi .sum (.cons (.ix (.v 5) (.int 1)) .nil)))) .nil))) (.cons (.asg (.n 4) (.bi .max1 (.cons (.lc false (.n 5) (.val (.v 2)) .nil (.bin .add (.ix (.v 5) (.int 0)) (.bi .max1 (.cons (.ix (.v 5) (.int 1)) .nil)))) .nil))) (.cons (.ret (.bin .add (.bin .add (.v 3) (.bi .sum (.cons (.lc false (.n 6) (.val (.fld (.v 0) 5)) .nil (.bin .sub (.v 6) (.int 1))) .nil))) (.bin .mul (.bi .len (.cons (.fld (.v 0) 5) .nil)) (.v 4)))) .nil))))
def f26 : Fn := ⟨"needed", "Bench.needed", false, 2, ["self", "due", "rows", "hours", "greatest", "row", "length"], b26, true⟩
/-- Bench.keeps_all(self): 0 self 1 due 2 row -/
def b27_1 : Sms := (.cons (.ite (.cmp .gt (.meth (.v 0) 7 (.cons (.v 1) .nil)) (.v 1)) (.cons (.ret (.tup (.cons (.str "late") (.cons (.v 1) (.cons (.meth (.v 0) 7 (.cons (.v 1) .nil)) .nil))))) .nil) .nil) .nil)
def b27 : Sms := (.cons (.fo (.n 1) (.val (.bi .sorted (.cons (.lc false (.n 2) (.val (.fld (.v 0) 6)) .nil (.ix (.v 2) (.int 2))) .nil))) b27_1) (.cons (.ret (.tup (.cons (.str "kept") .nil))) .nil))
def f27 : Fn := ⟨"keeps_all", "Bench.keeps_all", false, 1, ["self", "due", "row"], b27, true⟩
def P : Pg := ⟨[f0, f1, f2, f3, f4, f5, f6, f7, f8, f9, f10, f11, f12, f13, f14, f15, f16, f17, f18, f19, f20, f21, f22, f23, f24, f25, f26, f27], [⟨"Bench", 23, [6, 5], [(3, 24), (2, 25), (7, 26), (4, 27)]⟩], [⟨"TooMany", [1], [0]⟩, ⟨"BadBench", [0, 1], [1]⟩], ["place", "what", "stops", "jobs", "keeps_all", "held_stops", "held_jobs", "needed"]⟩
end K27

/-! what the text says -/
namespace K27T
open PySem PySem.Spec PyProof.Rows L2 G K27
def top (i : Nat) : Stmt := PySem.Challenge.pw_whoevercomes_k27_benches_kept_by_their_s.main.body.getD i (.Pass ⟨0, 0, 0, 0⟩)
abbrev st0 : Stmt := top 5
abbrev st1 : Stmt := top 6
abbrev st2 : Stmt := top 8
abbrev st3 : Stmt := top 9
abbrev st4 : Stmt := top 10
abbrev st5 : Stmt := top 11
abbrev st6 : Stmt := top 14
abbrev st7 : Stmt := top 15
abbrev st8 : Stmt := top 16
abbrev st9 : Stmt := top 17
abbrev st10 : Stmt := top 18
abbrev st11 : Stmt := top 19
abbrev st12 : Stmt := top 20
abbrev st13 : Stmt := top 21
abbrev st14 : Stmt := top 22
abbrev st15 : Stmt := top 23
abbrev st16 : Stmt := top 24
abbrev st17 : Stmt := top 25
abbrev st18 : Stmt := top 26
abbrev st19 : Stmt := top 27
abbrev st20 : Stmt := top 28
abbrev st21 : Stmt := top 29
abbrev st22 : Stmt := top 30
abbrev st23 : Stmt := inClass (top 12) 0
abbrev st24 : Stmt := inClass (top 12) 1
abbrev st25 : Stmt := inClass (top 12) 2
abbrev st26 : Stmt := inClass (top 12) 3
abbrev st27 : Stmt := inClass (top 12) 4
abbrev se0 : Stmt := inClass (top 2) 0
abbrev se1 : Stmt := inClass (top 3) 0
theorem ck0 : chkSs ⟨P, defScope st0, f0.names, fun _ => true⟩ f0.body (defBody st0) = true := by decide +kernel
theorem sc0 : FnScope f0.names (f0.names.take f0.np) (defScope st0) := ⟨by decide +kernel, by decide +kernel, by decide +kernel, by decide +kernel, by decide +kernel, by decide +kernel, by decide +kernel⟩
theorem ck1 : chkSs ⟨P, defScope st1, f1.names, fun _ => true⟩ f1.body (defBody st1) = true := by decide +kernel
theorem sc1 : FnScope f1.names (f1.names.take f1.np) (defScope st1) := ⟨by decide +kernel, by decide +kernel, by decide +kernel, by decide +kernel, by decide +kernel, by decide +kernel, by decide +kernel⟩
theorem ck2 : chkSs ⟨P, defScope st2, f2.names, fun _ => true⟩ f2.body (defBody st2) = true := by decide +kernel
theorem sc2 : FnScope f2.names (f2.names.take f2.np) (defScope st2) := ⟨by decide +kernel, by decide +kernel, by decide +kernel, by decide +kernel, by decide +kernel, by decide +kernel, by decide +kernel⟩
theorem ck3 : chkSs ⟨P, defScope st3, f3.names, fun _ => true⟩ f3.body (defBody st3) = true := by decide +kernel
theorem sc3 : FnScope f3.names (f3.names.take f3.np) (defScope st3) := ⟨by decide +kernel, by decide +kernel, by decide +kernel, by decide +kernel, by decide +kernel, by decide +kernel, by decide +kernel⟩
theorem ck4 : chkSs ⟨P, defScope st4, f4.names, fun _ => true⟩ f4.body (defBody st4) = true := by decide +kernel
theorem sc4 : FnScope f4.names (f4.names.take f4.np) (defScope st4) := ⟨by decide +kernel, by decide +kernel, by decide +kernel, by decide +kernel, by decide +kernel, by decide +kernel, by decide +kernel⟩
theorem ck5 : chkSs ⟨P, defScope st5, f5.names, fun _ => true⟩ f5.body (defBody st5) = true := by decide +kernel
theorem sc5 : FnScope f5.names (f5.names.take f5.np) (defScope st5) := ⟨by decide +kernel, by decide +kernel, by decide +kernel, by decide +kernel, by decide +kernel, by decide +kernel, by decide +kernel⟩
theorem ck6 : chkSs ⟨P, defScope st6, f6.names, fun _ => true⟩ f6.body (defBody st6) = true := by decide +kernel
theorem sc6 : FnScope f6.names (f6.names.take f6.np) (defScope st6) := ⟨by decide +kernel, by decide +kernel, by decide +kernel, by decide +kernel, by decide +kernel, by decide +kernel, by decide +kernel⟩
theorem ck7 : chkSs ⟨P, defScope st7, f7.names, fun _ => true⟩ f7.body (defBody st7) = true := by decide +kernel
theorem sc7 : FnScope f7.names (f7.names.take f7.np) (defScope st7) := ⟨by decide +kernel, by decide +kernel, by decide +kernel, by decide +kernel, by decide +kernel, by decide +kernel, by decide +kernel⟩
theorem ck8 : chkSs ⟨P, defScope st8, f8.names, fun _ => true⟩ f8.body (defBody st8) = true := by decide +kernel
theorem sc8 : FnScope f8.names (f8.names.take f8.np) (defScope st8) := ⟨by decide +kernel, by decide +kernel, by decide +kernel, by decide +kernel, by decide +kernel, by decide +kernel, by decide +kernel⟩
theorem ck9 : chkSs ⟨P, defScope st9, f9.names, fun _ => true⟩ f9.body (defBody st9) = true := by decide +kernel
theorem sc9 : FnScope f9.names (f9.names.take f9.np) (defScope st9) := ⟨by decide +kernel, by decide +kernel, by decide +kernel, by decide +kernel, by decide +kernel, by decide +kernel, by decide +kernel⟩
theorem ck10 : chkSs ⟨P, defScope st10, f10.names, fun _ => true⟩ f10.body (defBody st10) = true := by decide +kernel
theorem sc10 : FnScope f10.names (f10.names.take f10.np) (defScope st10) := ⟨by decide +kernel, by decide +kernel, by decide +kernel, by decide +kernel, by decide +kernel, by decide +kernel, by decide +kernel⟩
theorem ck11 : chkSs ⟨P, defScope st11, f11.names, fun _ => true⟩ f11.body (defBody st11) = true := by decide +kernel
theorem sc11 : FnScope f11.names (f11.names.take f11.np) (defScope st11) := ⟨by decide +kernel, by decide +kernel, by decide +kernel, by decide +kernel, by decide +kernel, by decide +kernel, by decide +kernel⟩
theorem ck12 : chkSs ⟨P, defScope st12, f12.names, fun _ => true⟩ f12.body (defBody st12) = true := by decide +kernel
theorem sc12 : FnScope f12.names (f12.names.take f12.np) (defScope st12) := ⟨by decide +kernel, by decide +kernel, by decide +kernel, by decide +kernel, by decide +kernel, by decide +kernel, by decide +kernel⟩
theorem ck13 : chkSs ⟨P, defScope st13, f13.names, fun _ => true⟩ f13.body (defBody st13) = true := by decide +kernel
theorem sc13 : FnScope f13.names (f13.names.take f13.np) (defScope st13) := ⟨by decide +kernel, by decide +kernel, by decide +kernel, by decide +kernel, by decide +kernel, by decide +kernel, by decide +kernel⟩
theorem ck14 : chkSs ⟨P, defScope st14, f14.names, fun _ => true⟩ f14.body (defBody st14) = true := by decide +kernel
theorem sc14 : FnScope f14.names (f14.names.take f14.np) (defScope st14) := ⟨by decide +kernel, by decide +kernel, by decide +kernel, by decide +kernel, by decide +kernel, by decide +kernel, by decide +kernel⟩
theorem ck15 : chkSs ⟨P, defScope st15, f15.names, fun _ => true⟩ f15.body (defBody st15) = true := by decide +kernel
theorem sc15 : FnScope f15.names (f15.names.take f15.np) (defScope st15) := ⟨by decide +kernel, by decide +kernel, by decide +kernel, by decide +kernel, by decide +kernel, by decide +kernel, by decide +kernel⟩
theorem ck16 : chkSs ⟨P, defScope st16, f16.names, fun _ => true⟩ f16.body (defBody st16) = true := by decide +kernel
theorem sc16 : FnScope f16.names (f16.names.take f16.np) (defScope st16) := ⟨by decide +kernel, by decide +kernel, by decide +kernel, by decide +kernel, by decide +kernel, by decide +kernel, by decide +kernel⟩
theorem ck17 : chkSs ⟨P, defScope st17, f17.names, fun _ => true⟩ f17.body (defBody st17) = true := by decide +kernel
theorem sc17 : FnScope f17.names (f17.names.take f17.np) (defScope st17) := ⟨by decide +kernel, by decide +kernel, by decide +kernel, by decide +kernel, by decide +kernel, by decide +kernel, by decide +kernel⟩
theorem ck18 : chkSs ⟨P, defScope st18, f18.names, fun _ => true⟩ f18.body (defBody st18) = true := by decide +kernel
theorem sc18 : FnScope f18.names (f18.names.take f18.np) (defScope st18) := ⟨by decide +kernel, by decide +kernel, by decide +kernel, by decide +kernel, by decide +kernel, by decide +kernel, by decide +kernel⟩
theorem ck19 : chkSs ⟨P, defScope st19, f19.names, fun _ => true⟩ f19.body (defBody st19) = true := by decide +kernel
theorem sc19 : FnScope f19.names (f19.names.take f19.np) (defScope st19) := ⟨by decide +kernel, by decide +kernel, by decide +kernel, by decide +kernel, by decide +kernel, by decide +kernel, by decide +kernel⟩
theorem ck20 : chkSs ⟨P, defScope st20, f20.names, fun _ => true⟩ f20.body (defBody st20) = true := by decide +kernel
theorem sc20 : FnScope f20.names (f20.names.take f20.np) (defScope st20) := ⟨by decide +kernel, by decide +kernel, by decide +kernel, by decide +kernel, by decide +kernel, by decide +kernel, by decide +kernel⟩
theorem ck21 : chkSs ⟨P, defScope st21, f21.names, fun _ => true⟩ f21.body (defBody st21) = true := by decide +kernel
theorem sc21 : FnScope f21.names (f21.names.take f21.np) (defScope st21) := ⟨by decide +kernel, by decide +kernel, by decide +kernel, by decide +kernel, by decide +kernel, by decide +kernel, by decide +kernel⟩
theorem ck22 : chkSs ⟨P, defScope st22, f22.names, fun _ => true⟩ f22.body (defBody st22) = true := by decide +kernel
theorem sc22 : FnScope f22.names (f22.names.take f22.np) (defScope st22) := ⟨by decide +kernel, by decide +kernel, by decide +kernel, by decide +kernel, by decide +kernel, by decide +kernel, by decide +kernel⟩
theorem ck23 : chkSs ⟨P, defScope st23, f23.names, fun _ => true⟩ f23.body (defBody st23) = true := by decide +kernel
theorem sc23 : FnScope f23.names (f23.names.take f23.np) (defScope st23) := ⟨by decide +kernel, by decide +kernel, by decide +kernel, by decide +kernel, by decide +kernel, by decide +kernel, by decide +kernel⟩
theorem ck24 : chkSs ⟨P, defScope st24, f24.names, fun _ => true⟩ f24.body (defBody st24) = true := by decide +kernel
theorem sc24 : FnScope f24.names (f24.names.take f24.np) (defScope st24) := ⟨by decide +kernel, by decide +kernel, by decide +kernel, by decide +kernel, by decide +kernel, by decide +kernel, by decide +kernel⟩
theorem ck25 : chkSs ⟨P, defScope st25, f25.names, fun _ => true⟩ f25.body (defBody st25) = true := by decide +kernel
theorem sc25 : FnScope f25.names (f25.names.take f25.np) (defScope st25) := ⟨by decide +kernel, by decide +kernel, by decide +kernel, by decide +kernel, by decide +kernel, by decide +kernel, by decide +kernel⟩
theorem ck26 : chkSs ⟨P, defScope st26, f26.names, fun _ => true⟩ f26.body (defBody st26) = true := by decide +kernel
theorem sc26 : FnScope f26.names (f26.names.take f26.np) (defScope st26) := ⟨by decide +kernel, by decide +kernel, by decide +kernel, by decide +kernel, by decide +kernel, by decide +kernel, by decide +kernel⟩
theorem ck27 : chkSs ⟨P, defScope st27, f27.names, fun _ => true⟩ f27.body (defBody st27) = true := by decide +kernel
theorem sc27 : FnScope f27.names (f27.names.take f27.np) (defScope st27) := ⟨by decide +kernel, by decide +kernel, by decide +kernel, by decide +kernel, by decide +kernel, by decide +kernel, by decide +kernel⟩
theorem df0 {Z : Gz} {mg : Str → Option Value} {a : Addr} (hZ : Z.P = P) (ha : Z.fa 0 = a) (D : Dk Z.K f0.name f0.qual st0 a) (hg : mg f0.name = some (.ref a)) : ∃ st fd, DefG Z mg 0 f0 st fd := by
  obtain ⟨fd, F⟩ := D
  subst ha
  exact ⟨st0, fd, F, sc0, by decide, by rw [hZ]; exact ck0, F.binds (ps := f0.names.take f0.np) fun _ _ _ _ _ _ us hl => match us, hl with | [_], _ => rfl, fun _ => hg⟩
theorem df1 {Z : Gz} {mg : Str → Option Value} {a : Addr} (hZ : Z.P = P) (ha : Z.fa 1 = a) (D : Dk Z.K f1.name f1.qual st1 a) (hg : mg f1.name = some (.ref a)) : ∃ st fd, DefG Z mg 1 f1 st fd := by
  obtain ⟨fd, F⟩ := D
  subst ha
  exact ⟨st1, fd, F, sc1, by decide, by rw [hZ]; exact ck1, F.binds (ps := f1.names.take f1.np) fun _ _ _ _ _ _ us hl => match us, hl with | [_, _, _], _ => rfl, fun _ => hg⟩
theorem df2 {Z : Gz} {mg : Str → Option Value} {a : Addr} (hZ : Z.P = P) (ha : Z.fa 2 = a) (D : Dk Z.K f2.name f2.qual st2 a) (hg : mg f2.name = some (.ref a)) : ∃ st fd, DefG Z mg 2 f2 st fd := by
  obtain ⟨fd, F⟩ := D
  subst ha
  exact ⟨st2, fd, F, sc2, by decide, by rw [hZ]; exact ck2, F.binds (ps := f2.names.take f2.np) fun _ _ _ _ _ _ us hl => match us, hl with | [_], _ => rfl, fun _ => hg⟩
theorem df3 {Z : Gz} {mg : Str → Option Value} {a : Addr} (hZ : Z.P = P) (ha : Z.fa 3 = a) (D : Dk Z.K f3.name f3.qual st3 a) (hg : mg f3.name = some (.ref a)) : ∃ st fd, DefG Z mg 3 f3 st fd := by
  obtain ⟨fd, F⟩ := D
  subst ha
  exact ⟨st3, fd, F, sc3, by decide, by rw [hZ]; exact ck3, F.binds (ps := f3.names.take f3.np) fun _ _ _ _ _ _ us hl => match us, hl with | [_, _], _ => rfl, fun _ => hg⟩
theorem df4 {Z : Gz} {mg : Str → Option Value} {a : Addr} (hZ : Z.P = P) (ha : Z.fa 4 = a) (D : Dk Z.K f4.name f4.qual st4 a) (hg : mg f4.name = some (.ref a)) : ∃ st fd, DefG Z mg 4 f4 st fd := by
  obtain ⟨fd, F⟩ := D
  subst ha
  exact ⟨st4, fd, F, sc4, by decide, by rw [hZ]; exact ck4, F.binds (ps := f4.names.take f4.np) fun _ _ _ _ _ _ us hl => match us, hl with | [_, _], _ => rfl, fun _ => hg⟩
theorem df5 {Z : Gz} {mg : Str → Option Value} {a : Addr} (hZ : Z.P = P) (ha : Z.fa 5 = a) (D : Dk Z.K f5.name f5.qual st5 a) (hg : mg f5.name = some (.ref a)) : ∃ st fd, DefG Z mg 5 f5 st fd := by
  obtain ⟨fd, F⟩ := D
  subst ha
  exact ⟨st5, fd, F, sc5, by decide, by rw [hZ]; exact ck5, F.binds (ps := f5.names.take f5.np) fun _ _ _ _ _ _ us hl => match us, hl with | [_, _], _ => rfl, fun _ => hg⟩
theorem df6 {Z : Gz} {mg : Str → Option Value} {a : Addr} (hZ : Z.P = P) (ha : Z.fa 6 = a) (D : Dk Z.K f6.name f6.qual st6 a) (hg : mg f6.name = some (.ref a)) : ∃ st fd, DefG Z mg 6 f6 st fd := by
  obtain ⟨fd, F⟩ := D
  subst ha
  exact ⟨st6, fd, F, sc6, by decide, by rw [hZ]; exact ck6, F.binds (ps := f6.names.take f6.np) fun _ _ _ _ _ _ us hl => match us, hl with | [_, _], _ => rfl, fun _ => hg⟩
theorem df7 {Z : Gz} {mg : Str → Option Value} {a : Addr} (hZ : Z.P = P) (ha : Z.fa 7 = a) (D : Dk Z.K f7.name f7.qual st7 a) (hg : mg f7.name = some (.ref a)) : ∃ st fd, DefG Z mg 7 f7 st fd := by
  obtain ⟨fd, F⟩ := D
  subst ha
  exact ⟨st7, fd, F, sc7, by decide, by rw [hZ]; exact ck7, F.binds (ps := f7.names.take f7.np) fun _ _ _ _ _ _ us hl => match us, hl with | [_, _], _ => rfl, fun _ => hg⟩
theorem df8 {Z : Gz} {mg : Str → Option Value} {a : Addr} (hZ : Z.P = P) (ha : Z.fa 8 = a) (D : Dk Z.K f8.name f8.qual st8 a) (hg : mg f8.name = some (.ref a)) : ∃ st fd, DefG Z mg 8 f8 st fd := by
  obtain ⟨fd, F⟩ := D
  subst ha
  exact ⟨st8, fd, F, sc8, by decide, by rw [hZ]; exact ck8, F.binds (ps := f8.names.take f8.np) fun _ _ _ _ _ _ us hl => match us, hl with | [_, _], _ => rfl, fun _ => hg⟩
theorem df9 {Z : Gz} {mg : Str → Option Value} {a : Addr} (hZ : Z.P = P) (ha : Z.fa 9 = a) (D : Dk Z.K f9.name f9.qual st9 a) (hg : mg f9.name = some (.ref a)) : ∃ st fd, DefG Z mg 9 f9 st fd := by
  obtain ⟨fd, F⟩ := D
  subst ha
  exact ⟨st9, fd, F, sc9, by decide, by rw [hZ]; exact ck9, F.binds (ps := f9.names.take f9.np) fun _ _ _ _ _ _ us hl => match us, hl with | [_, _, _], _ => rfl, fun _ => hg⟩
theorem df10 {Z : Gz} {mg : Str → Option Value} {a : Addr} (hZ : Z.P = P) (ha : Z.fa 10 = a) (D : Dk Z.K f10.name f10.qual st10 a) (hg : mg f10.name = some (.ref a)) : ∃ st fd, DefG Z mg 10 f10 st fd := by
  obtain ⟨fd, F⟩ := D
  subst ha
  exact ⟨st10, fd, F, sc10, by decide, by rw [hZ]; exact ck10, F.binds (ps := f10.names.take f10.np) fun _ _ _ _ _ _ us hl => match us, hl with | [_, _], _ => rfl, fun _ => hg⟩
theorem df11 {Z : Gz} {mg : Str → Option Value} {a : Addr} (hZ : Z.P = P) (ha : Z.fa 11 = a) (D : Dk Z.K f11.name f11.qual st11 a) (hg : mg f11.name = some (.ref a)) : ∃ st fd, DefG Z mg 11 f11 st fd := by
  obtain ⟨fd, F⟩ := D
  subst ha
  exact ⟨st11, fd, F, sc11, by decide, by rw [hZ]; exact ck11, F.binds (ps := f11.names.take f11.np) fun _ _ _ _ _ _ us hl => match us, hl with | [_, _], _ => rfl, fun _ => hg⟩
theorem df12 {Z : Gz} {mg : Str → Option Value} {a : Addr} (hZ : Z.P = P) (ha : Z.fa 12 = a) (D : Dk Z.K f12.name f12.qual st12 a) (hg : mg f12.name = some (.ref a)) : ∃ st fd, DefG Z mg 12 f12 st fd := by
  obtain ⟨fd, F⟩ := D
  subst ha
  exact ⟨st12, fd, F, sc12, by decide, by rw [hZ]; exact ck12, F.binds (ps := f12.names.take f12.np) fun _ _ _ _ _ _ us hl => match us, hl with | [_, _, _, _], _ => rfl, fun _ => hg⟩
theorem df13 {Z : Gz} {mg : Str → Option Value} {a : Addr} (hZ : Z.P = P) (ha : Z.fa 13 = a) (D : Dk Z.K f13.name f13.qual st13 a) (hg : mg f13.name = some (.ref a)) : ∃ st fd, DefG Z mg 13 f13 st fd := by
  obtain ⟨fd, F⟩ := D
  subst ha
  exact ⟨st13, fd, F, sc13, by decide, by rw [hZ]; exact ck13, F.binds (ps := f13.names.take f13.np) fun _ _ _ _ _ _ us hl => match us, hl with | [_, _], _ => rfl, fun _ => hg⟩
theorem df14 {Z : Gz} {mg : Str → Option Value} {a : Addr} (hZ : Z.P = P) (ha : Z.fa 14 = a) (D : Dk Z.K f14.name f14.qual st14 a) (hg : mg f14.name = some (.ref a)) : ∃ st fd, DefG Z mg 14 f14 st fd := by
  obtain ⟨fd, F⟩ := D
  subst ha
  exact ⟨st14, fd, F, sc14, by decide, by rw [hZ]; exact ck14, F.binds (ps := f14.names.take f14.np) fun _ _ _ _ _ _ us hl => match us, hl with | [_, _, _], _ => rfl, fun _ => hg⟩
theorem df15 {Z : Gz} {mg : Str → Option Value} {a : Addr} (hZ : Z.P = P) (ha : Z.fa 15 = a) (D : Dk Z.K f15.name f15.qual st15 a) (hg : mg f15.name = some (.ref a)) : ∃ st fd, DefG Z mg 15 f15 st fd := by
  obtain ⟨fd, F⟩ := D
  subst ha
  exact ⟨st15, fd, F, sc15, by decide, by rw [hZ]; exact ck15, F.binds (ps := f15.names.take f15.np) fun _ _ _ _ _ _ us hl => match us, hl with | [_, _], _ => rfl, fun _ => hg⟩
theorem df16 {Z : Gz} {mg : Str → Option Value} {a : Addr} (hZ : Z.P = P) (ha : Z.fa 16 = a) (D : Dk Z.K f16.name f16.qual st16 a) (hg : mg f16.name = some (.ref a)) : ∃ st fd, DefG Z mg 16 f16 st fd := by
  obtain ⟨fd, F⟩ := D
  subst ha
  exact ⟨st16, fd, F, sc16, by decide, by rw [hZ]; exact ck16, F.binds (ps := f16.names.take f16.np) fun _ _ _ _ _ _ us hl => match us, hl with | [_, _, _], _ => rfl, fun _ => hg⟩
theorem df17 {Z : Gz} {mg : Str → Option Value} {a : Addr} (hZ : Z.P = P) (ha : Z.fa 17 = a) (D : Dk Z.K f17.name f17.qual st17 a) (hg : mg f17.name = some (.ref a)) : ∃ st fd, DefG Z mg 17 f17 st fd := by
  obtain ⟨fd, F⟩ := D
  subst ha
  exact ⟨st17, fd, F, sc17, by decide, by rw [hZ]; exact ck17, F.binds (ps := f17.names.take f17.np) fun _ _ _ _ _ _ us hl => match us, hl with | [_], _ => rfl, fun _ => hg⟩
theorem df18 {Z : Gz} {mg : Str → Option Value} {a : Addr} (hZ : Z.P = P) (ha : Z.fa 18 = a) (D : Dk Z.K f18.name f18.qual st18 a) (hg : mg f18.name = some (.ref a)) : ∃ st fd, DefG Z mg 18 f18 st fd := by
  obtain ⟨fd, F⟩ := D
  subst ha
  exact ⟨st18, fd, F, sc18, by decide, by rw [hZ]; exact ck18, F.binds (ps := f18.names.take f18.np) fun _ _ _ _ _ _ us hl => match us, hl with | [_, _], _ => rfl, fun _ => hg⟩
theorem df19 {Z : Gz} {mg : Str → Option Value} {a : Addr} (hZ : Z.P = P) (ha : Z.fa 19 = a) (D : Dk Z.K f19.name f19.qual st19 a) (hg : mg f19.name = some (.ref a)) : ∃ st fd, DefG Z mg 19 f19 st fd := by
  obtain ⟨fd, F⟩ := D
  subst ha
  exact ⟨st19, fd, F, sc19, by decide, by rw [hZ]; exact ck19, F.binds (ps := f19.names.take f19.np) fun _ _ _ _ _ _ us hl => match us, hl with | [_, _], _ => rfl, fun _ => hg⟩
theorem df20 {Z : Gz} {mg : Str → Option Value} {a : Addr} (hZ : Z.P = P) (ha : Z.fa 20 = a) (D : Dk Z.K f20.name f20.qual st20 a) (hg : mg f20.name = some (.ref a)) : ∃ st fd, DefG Z mg 20 f20 st fd := by
  obtain ⟨fd, F⟩ := D
  subst ha
  exact ⟨st20, fd, F, sc20, by decide, by rw [hZ]; exact ck20, F.binds (ps := f20.names.take f20.np) fun _ _ _ _ _ _ us hl => match us, hl with | [_, _, _], _ => rfl, fun _ => hg⟩
theorem df21 {Z : Gz} {mg : Str → Option Value} {a : Addr} (hZ : Z.P = P) (ha : Z.fa 21 = a) (D : Dk Z.K f21.name f21.qual st21 a) (hg : mg f21.name = some (.ref a)) : ∃ st fd, DefG Z mg 21 f21 st fd := by
  obtain ⟨fd, F⟩ := D
  subst ha
  exact ⟨st21, fd, F, sc21, by decide, by rw [hZ]; exact ck21, F.binds (ps := f21.names.take f21.np) fun _ _ _ _ _ _ us hl => match us, hl with | [_, _, _], _ => rfl, fun _ => hg⟩
theorem df22 {Z : Gz} {mg : Str → Option Value} {a : Addr} (hZ : Z.P = P) (ha : Z.fa 22 = a) (D : Dk Z.K f22.name f22.qual st22 a) (hg : mg f22.name = some (.ref a)) : ∃ st fd, DefG Z mg 22 f22 st fd := by
  obtain ⟨fd, F⟩ := D
  subst ha
  exact ⟨st22, fd, F, sc22, by decide, by rw [hZ]; exact ck22, F.binds (ps := f22.names.take f22.np) fun _ _ _ _ _ _ us hl => match us, hl with | [_], _ => rfl, fun _ => hg⟩
theorem df23 {Z : Gz} {mg : Str → Option Value} {a : Addr} (hZ : Z.P = P) (ha : Z.fa 23 = a) (D : Dk Z.K f23.name f23.qual st23 a) : ∃ st fd, DefG Z mg 23 f23 st fd := by
  obtain ⟨fd, F⟩ := D
  subst ha
  exact ⟨st23, fd, F, sc23, by decide, by rw [hZ]; exact ck23, F.binds (ps := f23.names.take f23.np) fun _ _ _ _ _ _ us hl => match us, hl with | [_, _, _], _ => rfl, fun h => by cases h⟩
theorem df24 {Z : Gz} {mg : Str → Option Value} {a : Addr} (hZ : Z.P = P) (ha : Z.fa 24 = a) (D : Dk Z.K f24.name f24.qual st24 a) : ∃ st fd, DefG Z mg 24 f24 st fd := by
  obtain ⟨fd, F⟩ := D
  subst ha
  exact ⟨st24, fd, F, sc24, by decide, by rw [hZ]; exact ck24, F.binds (ps := f24.names.take f24.np) fun _ _ _ _ _ _ us hl => match us, hl with | [_], _ => rfl, fun h => by cases h⟩
theorem df25 {Z : Gz} {mg : Str → Option Value} {a : Addr} (hZ : Z.P = P) (ha : Z.fa 25 = a) (D : Dk Z.K f25.name f25.qual st25 a) : ∃ st fd, DefG Z mg 25 f25 st fd := by
  obtain ⟨fd, F⟩ := D
  subst ha
  exact ⟨st25, fd, F, sc25, by decide, by rw [hZ]; exact ck25, F.binds (ps := f25.names.take f25.np) fun _ _ _ _ _ _ us hl => match us, hl with | [_], _ => rfl, fun h => by cases h⟩
theorem df26 {Z : Gz} {mg : Str → Option Value} {a : Addr} (hZ : Z.P = P) (ha : Z.fa 26 = a) (D : Dk Z.K f26.name f26.qual st26 a) : ∃ st fd, DefG Z mg 26 f26 st fd := by
  obtain ⟨fd, F⟩ := D
  subst ha
  exact ⟨st26, fd, F, sc26, by decide, by rw [hZ]; exact ck26, F.binds (ps := f26.names.take f26.np) fun _ _ _ _ _ _ us hl => match us, hl with | [_, _], _ => rfl, fun h => by cases h⟩
theorem df27 {Z : Gz} {mg : Str → Option Value} {a : Addr} (hZ : Z.P = P) (ha : Z.fa 27 = a) (D : Dk Z.K f27.name f27.qual st27 a) : ∃ st fd, DefG Z mg 27 f27 st fd := by
  obtain ⟨fd, F⟩ := D
  subst ha
  exact ⟨st27, fd, F, sc27, by decide, by rw [hZ]; exact ck27, F.binds (ps := f27.names.take f27.np) fun _ _ _ _ _ _ us hl => match us, hl with | [_], _ => rfl, fun h => by cases h⟩
/-- where all stands -/
def ZZ (K : PySem.W.Frag) (wf : Nat) (fa cl ec : List Addr) : Gz := { P := P, K := K, cl := fun i => cl.getD i 0, ec := fun i => ec.getD i 0, wf := wf, fa := fun i => fa.getD i 0 }
theorem all_mk {w : World} {K : PySem.W.Frag} {h : Heap} {mg : Str → Option Value} {fa : Addr} {wf n : Nat} (X : K.In h) (G : h.Ns mainGlobals mg) (hfa : mg "law" = some (.ref fa)) {q0 q1 q2 q3 q4 q5 q6 q7 q8 q9 q10 q11 q12 q13 q14 q15 q16 q17 q18 q19 q20 q21 q22 q23 q24 q25 q26 q27 c0 e0 i0 e1 i1 : Addr}
    (a0 : PySem.W.nsIn K mainGlobals f0.name = some (some (.ref q0)))
    (a1 : PySem.W.nsIn K mainGlobals f1.name = some (some (.ref q1)))
    (a2 : PySem.W.nsIn K mainGlobals f2.name = some (some (.ref q2)))
    (a3 : PySem.W.nsIn K mainGlobals f3.name = some (some (.ref q3)))
    (a4 : PySem.W.nsIn K mainGlobals f4.name = some (some (.ref q4)))
    (a5 : PySem.W.nsIn K mainGlobals f5.name = some (some (.ref q5)))
    (a6 : PySem.W.nsIn K mainGlobals f6.name = some (some (.ref q6)))
    (a7 : PySem.W.nsIn K mainGlobals f7.name = some (some (.ref q7)))
    (a8 : PySem.W.nsIn K mainGlobals f8.name = some (some (.ref q8)))
    (a9 : PySem.W.nsIn K mainGlobals f9.name = some (some (.ref q9)))
    (a10 : PySem.W.nsIn K mainGlobals f10.name = some (some (.ref q10)))
    (a11 : PySem.W.nsIn K mainGlobals f11.name = some (some (.ref q11)))
    (a12 : PySem.W.nsIn K mainGlobals f12.name = some (some (.ref q12)))
    (a13 : PySem.W.nsIn K mainGlobals f13.name = some (some (.ref q13)))
    (a14 : PySem.W.nsIn K mainGlobals f14.name = some (some (.ref q14)))
    (a15 : PySem.W.nsIn K mainGlobals f15.name = some (some (.ref q15)))
    (a16 : PySem.W.nsIn K mainGlobals f16.name = some (some (.ref q16)))
    (a17 : PySem.W.nsIn K mainGlobals f17.name = some (some (.ref q17)))
    (a18 : PySem.W.nsIn K mainGlobals f18.name = some (some (.ref q18)))
    (a19 : PySem.W.nsIn K mainGlobals f19.name = some (some (.ref q19)))
    (a20 : PySem.W.nsIn K mainGlobals f20.name = some (some (.ref q20)))
    (a21 : PySem.W.nsIn K mainGlobals f21.name = some (some (.ref q21)))
    (a22 : PySem.W.nsIn K mainGlobals f22.name = some (some (.ref q22)))
    (ac0 : PySem.W.nsIn K mainGlobals "Bench" = some (some (.ref c0)))
    (k0 : Ck1 K c0 q23)
    (m24 : PySem.W.findIn K (.ref c0) "jobs" = some (some (.ref q24)))
    (mi24 : PySem.W.isFn K (.ref q24) = true)
    (m25 : PySem.W.findIn K (.ref c0) "stops" = some (some (.ref q25)))
    (mi25 : PySem.W.isFn K (.ref q25) = true)
    (m26 : PySem.W.findIn K (.ref c0) "needed" = some (some (.ref q26)))
    (mi26 : PySem.W.isFn K (.ref q26) = true)
    (m27 : PySem.W.findIn K (.ref c0) "keeps_all" = some (some (.ref q27)))
    (mi27 : PySem.W.isFn K (.ref q27) = true)
    (n0_held_jobs : PySem.W.findIn K (.ref c0) "held_jobs" = some none)
    (n0_held_stops : PySem.W.findIn K (.ref c0) "held_stops" = some none)
    (d0 : Dk K f0.name f0.qual st0 q0)
    (d1 : Dk K f1.name f1.qual st1 q1)
    (d2 : Dk K f2.name f2.qual st2 q2)
    (d3 : Dk K f3.name f3.qual st3 q3)
    (d4 : Dk K f4.name f4.qual st4 q4)
    (d5 : Dk K f5.name f5.qual st5 q5)
    (d6 : Dk K f6.name f6.qual st6 q6)
    (d7 : Dk K f7.name f7.qual st7 q7)
    (d8 : Dk K f8.name f8.qual st8 q8)
    (d9 : Dk K f9.name f9.qual st9 q9)
    (d10 : Dk K f10.name f10.qual st10 q10)
    (d11 : Dk K f11.name f11.qual st11 q11)
    (d12 : Dk K f12.name f12.qual st12 q12)
    (d13 : Dk K f13.name f13.qual st13 q13)
    (d14 : Dk K f14.name f14.qual st14 q14)
    (d15 : Dk K f15.name f15.qual st15 q15)
    (d16 : Dk K f16.name f16.qual st16 q16)
    (d17 : Dk K f17.name f17.qual st17 q17)
    (d18 : Dk K f18.name f18.qual st18 q18)
    (d19 : Dk K f19.name f19.qual st19 q19)
    (d20 : Dk K f20.name f20.qual st20 q20)
    (d21 : Dk K f21.name f21.qual st21 q21)
    (d22 : Dk K f22.name f22.qual st22 q22)
    (d23 : Dk K f23.name f23.qual st23 q23)
    (d24 : Dk K f24.name f24.qual st24 q24)
    (d25 : Dk K f25.name f25.qual st25 q25)
    (d26 : Dk K f26.name f26.qual st26 q26)
    (d27 : Dk K f27.name f27.qual st27 q27)
    (ae0 : PySem.W.nsIn K mainGlobals "TooMany" = some (some (.ref e0)))
    (ek0 : Ek1 K e0 i0)
    (ik0 : ∃ fd, Ik K PySem.Challenge.pw_whoevercomes_k27_benches_kept_by_their_s mg "__init__" "TooMany.__init__" se0 e0 i0 fd)
    (en0_what : PySem.W.findIn K (.ref e0) "what" = some none)
    (ae1 : PySem.W.nsIn K mainGlobals "BadBench" = some (some (.ref e1)))
    (ek1 : Ek1 K e1 i1)
    (ik1 : ∃ fd, Ik K PySem.Challenge.pw_whoevercomes_k27_benches_kept_by_their_s mg "__init__" "BadBench.__init__" se1 e1 i1 fd)
    (en1_what : PySem.W.findIn K (.ref e1) "what" = some none)
    (en1_place : PySem.W.findIn K (.ref e1) "place" = some none)
    (es0_0 : PySem.W.subIn K (.ref e0) (.ref e0) = some true)
    (es0_1 : PySem.W.subIn K (.ref e0) (.ref e1) = some false)
    (es1_0 : PySem.W.subIn K (.ref e1) (.ref e0) = some false)
    (es1_1 : PySem.W.subIn K (.ref e1) (.ref e1) = some true)
    (z_len : PySem.W.nsIn K mainGlobals "len" = some none)
    (z_sum : PySem.W.nsIn K mainGlobals "sum" = some none)
    (z_max : PySem.W.nsIn K mainGlobals "max" = some none)
    (z_min : PySem.W.nsIn K mainGlobals "min" = some none)
    (z_abs : PySem.W.nsIn K mainGlobals "abs" = some none)
    (z_int : PySem.W.nsIn K mainGlobals "int" = some none)
    (z_sorted : PySem.W.nsIn K mainGlobals "sorted" = some none)
    (z_list : PySem.W.nsIn K mainGlobals "list" = some none)
    (z_tuple : PySem.W.nsIn K mainGlobals "tuple" = some none)
    (z_any : PySem.W.nsIn K mainGlobals "any" = some none)
    (z_all : PySem.W.nsIn K mainGlobals "all" = some none)
    (z_isinstance : PySem.W.nsIn K mainGlobals "isinstance" = some none)
    (z_range : PySem.W.nsIn K mainGlobals "range" = some none)
    (z_bool : PySem.W.nsIn K mainGlobals "bool" = some none)
    (z_str : PySem.W.nsIn K mainGlobals "str" = some none)
    : ∃ (fd : FuncData) (Z : Gz), Z.P = P ∧ Z.wf = wf ∧ Z.K = K ∧ (∀ (s : Shared) (v : Value), BindsTo s fd ⟨[v], []⟩ [("script", v)]) ∧ ∀ base : Heap, K.In base → base.Ns mainGlobals mg → FnOk PySem.Challenge.pw_whoevercomes_k27_benches_kept_by_their_s w K mg base (L2.CX PySem.Challenge.pw_whoevercomes_k27_benches_kept_by_their_s w) (2 * n + 1) fa fd ["script"] (spR Z n 22) := by
  have e := hfa.symm.trans (PySem.W.mg_of X G a22)
  cases e
  have hL := d22
  obtain ⟨fdL, FL⟩ := hL
  obtain ⟨oc, od, kV, doc, pm, an, cdv, ct, osl, rfl, lk, hcd⟩ := id FL.ex
  let Z : Gz := ZZ K wf [q0, q1, q2, q3, q4, q5, q6, q7, q8, q9, q10, q11, q12, q13, q14, q15, q16, q17, q18, q19, q20, q21, fa, q23, q24, q25, q26, q27] [c0] [e0, e1]
  refine ⟨PySem.W.fnOf f22.name f22.qual (defArgs st22) (defBody st22) (defScope st22) .none kV doc pm an cdv ct, Z, rfl, rfl, rfl, fun s v => .of_eq rfl, fun base _ _ => ?_⟩
  have D : DefAll Z mg 0 Z.P.fns := ⟨df0 (Z := Z) rfl rfl d0 (PySem.W.mg_of X G a0), df1 (Z := Z) rfl rfl d1 (PySem.W.mg_of X G a1), df2 (Z := Z) rfl rfl d2 (PySem.W.mg_of X G a2), df3 (Z := Z) rfl rfl d3 (PySem.W.mg_of X G a3), df4 (Z := Z) rfl rfl d4 (PySem.W.mg_of X G a4), df5 (Z := Z) rfl rfl d5 (PySem.W.mg_of X G a5), df6 (Z := Z) rfl rfl d6 (PySem.W.mg_of X G a6), df7 (Z := Z) rfl rfl d7 (PySem.W.mg_of X G a7), df8 (Z := Z) rfl rfl d8 (PySem.W.mg_of X G a8), df9 (Z := Z) rfl rfl d9 (PySem.W.mg_of X G a9), df10 (Z := Z) rfl rfl d10 (PySem.W.mg_of X G a10), df11 (Z := Z) rfl rfl d11 (PySem.W.mg_of X G a11), df12 (Z := Z) rfl rfl d12 (PySem.W.mg_of X G a12), df13 (Z := Z) rfl rfl d13 (PySem.W.mg_of X G a13), df14 (Z := Z) rfl rfl d14 (PySem.W.mg_of X G a14), df15 (Z := Z) rfl rfl d15 (PySem.W.mg_of X G a15), df16 (Z := Z) rfl rfl d16 (PySem.W.mg_of X G a16), df17 (Z := Z) rfl rfl d17 (PySem.W.mg_of X G a17), df18 (Z := Z) rfl rfl d18 (PySem.W.mg_of X G a18), df19 (Z := Z) rfl rfl d19 (PySem.W.mg_of X G a19), df20 (Z := Z) rfl rfl d20 (PySem.W.mg_of X G a20), df21 (Z := Z) rfl rfl d21 (PySem.W.mg_of X G a21), df22 (Z := Z) rfl rfl d22 (PySem.W.mg_of X G a22), df23 (Z := Z) rfl rfl d23, df24 (Z := Z) rfl rfl d24, df25 (Z := Z) rfl rfl d25, df26 (Z := Z) rfl rfl d26, df27 (Z := Z) rfl rfl d27, trivial⟩
  have C : ClsAll Z mg 0 Z.P.cls := ⟨⟨PySem.W.mg_of X G ac0, k0, (show (23 : Nat) < 28 by decide), by
    intro p hp
    simp only [List.mem_cons, List.mem_nil_iff, or_false] at hp
    rcases hp with rfl | rfl | rfl | rfl
    · exact ⟨⟨m24, mi24, (by obtain ⟨_, g⟩ := d24; exact g.kp)⟩, (show (24 : Nat) < 28 by decide)⟩
    · exact ⟨⟨m25, mi25, (by obtain ⟨_, g⟩ := d25; exact g.kp)⟩, (show (25 : Nat) < 28 by decide)⟩
    · exact ⟨⟨m26, mi26, (by obtain ⟨_, g⟩ := d26; exact g.kp)⟩, (show (26 : Nat) < 28 by decide)⟩
    · exact ⟨⟨m27, mi27, (by obtain ⟨_, g⟩ := d27; exact g.kp)⟩, (show (27 : Nat) < 28 by decide)⟩, by
    intro f hf
    simp only [List.mem_cons, List.mem_nil_iff, or_false] at hf
    rcases hf with rfl | rfl
    · exact n0_held_jobs
    · exact n0_held_stops⟩, trivial⟩
  have E0 : ErrF Z PySem.Challenge.pw_whoevercomes_k27_benches_kept_by_their_s mg 0 (Z.P.ers.getD 0 ⟨Str.empty, [], []⟩) := by
    obtain ⟨fd, I⟩ := ik0
    refine ⟨⟨i0, "__init__", "TooMany.__init__", se0, ["self", "what"], ["what"], fd, I, ek0, by decide +kernel, rfl, rfl, by simp, ?_, ?_⟩, (show ∀ f ∈ ([1] : List Nat), f < 8 by decide), (show (1 : Nat) ≤ 900 by decide), PySem.W.mg_of X G ae0⟩
    · intro f hf
      simp only [List.mem_cons, List.mem_nil_iff, or_false] at hf
      rcases hf with rfl
      · exact en0_what
    · obtain ⟨kV, doc, pm, ct, an, cda, cc, rfl, _⟩ := I
      exact .all fun us hl => match us, hl with | [_, _], _ => rfl
  have E1 : ErrF Z PySem.Challenge.pw_whoevercomes_k27_benches_kept_by_their_s mg 1 (Z.P.ers.getD 1 ⟨Str.empty, [], []⟩) := by
    obtain ⟨fd, I⟩ := ik1
    refine ⟨⟨i1, "__init__", "BadBench.__init__", se1, ["self", "what", "place"], ["what", "place"], fd, I, ek1, by decide +kernel, rfl, rfl, by simp, ?_, ?_⟩, (show ∀ f ∈ ([0, 1] : List Nat), f < 8 by decide), (show (2 : Nat) ≤ 900 by decide), PySem.W.mg_of X G ae1⟩
    · intro f hf
      simp only [List.mem_cons, List.mem_nil_iff, or_false] at hf
      rcases hf with rfl | rfl
      · exact en1_what
      · exact en1_place
    · obtain ⟨kV, doc, pm, ct, an, cda, cc, rfl, _⟩ := I
      exact .all fun us hl => match us, hl with | [_, _, _], _ => rfl
  have E : ErrAll Z PySem.Challenge.pw_whoevercomes_k27_benches_kept_by_their_s mg 0 Z.P.ers := ⟨E0, E1, trivial⟩
  have hb : ∀ x ∈ blts, mg x = none := by
    intro x hx
    simp only [blts, List.mem_cons, List.mem_nil_iff, or_false] at hx
    rcases hx with rfl | rfl | rfl | rfl | rfl | rfl | rfl | rfl | rfl | rfl | rfl | rfl | rfl | rfl | rfl
    · exact PySem.W.mg_none_of X G z_len
    · exact PySem.W.mg_none_of X G z_sum
    · exact PySem.W.mg_none_of X G z_max
    · exact PySem.W.mg_none_of X G z_min
    · exact PySem.W.mg_none_of X G z_abs
    · exact PySem.W.mg_none_of X G z_int
    · exact PySem.W.mg_none_of X G z_sorted
    · exact PySem.W.mg_none_of X G z_list
    · exact PySem.W.mg_none_of X G z_tuple
    · exact PySem.W.mg_none_of X G z_any
    · exact PySem.W.mg_none_of X G z_all
    · exact PySem.W.mg_none_of X G z_isinstance
    · exact PySem.W.mg_none_of X G z_range
    · exact PySem.W.mg_none_of X G z_bool
    · exact PySem.W.mg_none_of X G z_str
  have hs : ∀ c e k e2, Z.P.ers[c]? = some e → Z.P.ers[k]? = some e2 → PySem.W.subIn Z.K (.ref (Z.ec c)) (.ref (Z.ec k)) = some (e.ups.contains k) := by
    intro c e k e2 h1 h2
    have l1 : c < 2 := (List.getElem?_eq_some_iff.mp h1).1
    have l2 : k < 2 := (List.getElem?_eq_some_iff.mp h2).1
    match c, k, l1, l2, h1 with
    | 0, 0, _, _, h1 => cases h1; exact es0_0
    | 0, 1, _, _, h1 => cases h1; exact es0_1
    | 1, 0, _, _, h1 => cases h1; exact es1_0
    | 1, 1, _, _, h1 => cases h1; exact es1_1
  have T : TxtG Z PySem.Challenge.pw_whoevercomes_k27_benches_kept_by_their_s w mg base := txt_of D C E hb hs (show P.nms.Nodup by decide +kernel)
  have D0 : DefG Z mg 22 f22 st22 _ := ⟨FL, sc22, by decide, ck22, FL.binds (ps := f22.names.take f22.np) fun _ _ _ _ _ _ us hl => match us, hl with | [_], _ => rfl, fun _ => hfa⟩
  exact fn_all T n 22 f22 st22 _ rfl D0
end K27T

/-! GRun -/
set_option maxRecDepth 100000
set_option maxHeartbeats 4000000
namespace G
abbrev hk {α : Sort u} (_ : α) : Unit := ()
class Hold (a : Unit) : Type where
instance (a : Unit) : Hold a := {}
def Res.zbind {α β : Type} (r : Res α) (f : α → Store → Res β) [Hold (hk f)] : Res β := r.bind f
@[simp] theorem zbind_ok {α β : Type} {a : α} {M : Store} {f : α → Store → Res β} [Hold (hk f)] : (Res.ok a M).zbind f = f a M := id rfl
@[simp] theorem zbind_err {α β : Type} {c : Nat} {fs : List D} {M : Store} {f : α → Store → Res β} [Hold (hk f)] : (Res.err c fs M : Res α).zbind f = .err c fs M := id rfl
@[simp] theorem zbind_stuck {α β : Type} {f : α → Store → Res β} [Hold (hk f)] : (Res.stuck : Res α).zbind f = .stuck := id rfl
def zwith {α : Type} (r : Res α) (ρ : Rho) (f : α → Store → Out) [Hold (hk f)] : Out := withE r ρ f
@[simp] theorem zwith_ok {α : Type} {a : α} {M : Store} {ρ : Rho} {f : α → Store → Out} [Hold (hk f)] : zwith (.ok a M) ρ f = f a M := id rfl
@[simp] theorem zwith_err {α : Type} {c : Nat} {fs : List D} {M : Store} {ρ : Rho} {f : α → Store → Out} [Hold (hk f)] : zwith (.err c fs M : Res α) ρ f = some (.er c fs ρ, M) := id rfl
@[simp] theorem zwith_stuck {α : Type} {ρ : Rho} {f : α → Store → Out} [Hold (hk f)] : zwith (.stuck : Res α) ρ f = none := id rfl
def zthen (o : Out) (f : Rho → Store → Out) [Hold (hk f)] : Out := andThen o f
@[simp] theorem zthen_nx {ρ : Rho} {M : Store} {f : Rho → Store → Out} [Hold (hk f)] : zthen (some (.nx ρ, M)) f = f ρ M := id rfl
@[simp] theorem zthen_rt {d : D} {M : Store} {f : Rho → Store → Out} [Hold (hk f)] : zthen (some (.rt d, M)) f = some (.rt d, M) := id rfl
@[simp] theorem zthen_bk {ρ : Rho} {M : Store} {f : Rho → Store → Out} [Hold (hk f)] : zthen (some (.bk ρ, M)) f = some (.bk ρ, M) := id rfl
@[simp] theorem zthen_ct {ρ : Rho} {M : Store} {f : Rho → Store → Out} [Hold (hk f)] : zthen (some (.ct ρ, M)) f = some (.ct ρ, M) := id rfl
@[simp] theorem zthen_er {c : Nat} {fs : List D} {ρ : Rho} {M : Store} {f : Rho → Store → Out} [Hold (hk f)] : zthen (some (.er c fs ρ, M)) f = some (.er c fs ρ, M) := id rfl
@[simp] theorem zthen_none {f : Rho → Store → Out} [Hold (hk f)] : zthen none f = none := id rfl
section
variable {α : Type}
def onB (x : D) (k : Bool → Res α) [Hold (hk k)] : Res α := match x with | .bl b => k b | _ => .stuck
def onI (x : D) (k : Int → Res α) [Hold (hk k)] : Res α := match x with | .int b => k b | _ => .stuck
def onO {β : Type} (x : Option β) (k : β → Res α) [Hold (hk k)] : Res α := match x with | some b => k b | none => .stuck
def onV (x : Option (Option D)) (k : D → Res α) [Hold (hk k)] : Res α := match x with | some (some d) => k d | _ => .stuck
def onL (x : Option Ob) (k : List D → Res α) [Hold (hk k)] : Res α := match x with | some (.lst xs) => k xs | _ => .stuck
def onN (x : Option Ob) (k : Nat → List (Nat × D) → Res α) [Hold (hk k)] : Res α := match x with | some (.ins c fs) => k c fs | _ => .stuck
def onP (x : D) (k : Nat → Res α) [Hold (hk k)] : Res α := match x with | .ptr n => k n | _ => .stuck
@[simp] theorem onB_bl {b : Bool} {k : Bool → Res α} : onB (.bl b) k = k b := id rfl
@[simp] theorem onI_int {b : Int} {k : Int → Res α} : onI (.int b) k = k b := id rfl
@[simp] theorem onO_some {β : Type} {b : β} {k : β → Res α} : onO (some b) k = k b := id rfl
@[simp] theorem onV_some {b : D} {k : D → Res α} : onV (some (some b)) k = k b := id rfl
@[simp] theorem onL_lst {b : List D} {k : List D → Res α} : onL (some (.lst b)) k = k b := id rfl
@[simp] theorem onN_ins {c : Nat} {fs : List (Nat × D)} {k : Nat → List (Nat × D) → Res α} : onN (some (.ins c fs)) k = k c fs := id rfl
@[simp] theorem onP_ptr {b : Nat} {k : Nat → Res α} : onP (.ptr b) k = k b := id rfl
end
def oI (x : D) (k : Int → Out) [Hold (hk k)] : Out := match x with | .int b => k b | _ => none
def oO {β : Type} (x : Option β) (k : β → Out) [Hold (hk k)] : Out := match x with | some b => k b | none => none
def oL (x : Option Ob) (k : List D → Out) [Hold (hk k)] : Out := match x with | some (.lst xs) => k xs | _ => none
def oN (x : Option Ob) (k : Nat → List (Nat × D) → Out) [Hold (hk k)] : Out := match x with | some (.ins c fs) => k c fs | _ => none
def oP (x : D) (k : Nat → Out) [Hold (hk k)] : Out := match x with | .ptr n => k n | _ => none
def oD (x : Option (Option D)) (k : D → Out) [Hold (hk k)] : Out := match x with | some (some d) => k d | _ => none
@[simp] theorem oI_int {b : Int} {k : Int → Out} : oI (.int b) k = k b := id rfl
@[simp] theorem oO_some {β : Type} {b : β} {k : β → Out} : oO (some b) k = k b := id rfl
@[simp] theorem oL_lst {b : List D} {k : List D → Out} : oL (some (.lst b)) k = k b := id rfl
@[simp] theorem oN_ins {c : Nat} {fs : List (Nat × D)} {k : Nat → List (Nat × D) → Out} : oN (some (.ins c fs)) k = k c fs := id rfl
@[simp] theorem oP_ptr {b : Nat} {k : Nat → Out} : oP (.ptr b) k = k b := id rfl
@[simp] theorem oD_some {b : D} {k : D → Out} : oD (some (some b)) k = k b := id rfl
section
variable {P : Pg} {w : Nat} {cf : Nat → List D → Store → Res D} {ρ : Rho} {M : Store}
@[simp] theorem rE_non : runE P w cf ρ .non M = .ok .non M := id rfl
@[simp] theorem rE_bl {b : Bool} : runE P w cf ρ (.bl b) M = .ok (.bl b) M := id rfl
@[simp] theorem rE_int {i : Int} : runE P w cf ρ (.int i) M = .ok (.int i) M := id rfl
@[simp] theorem rE_str {x : PySem.Str} : runE P w cf ρ (.str x) M = .ok (.str x) M := id rfl
@[simp] theorem rE_v {i : Nat} : runE P w cf ρ (.v i) M = onV ρ[i]? fun d => .ok d M := by
  show (match ρ[i]? with | some (some d) => Res.ok d M | _ => .stuck) = _
  cases ρ[i]? with
  | none => rfl
  | some o => cases o <;> rfl
@[simp] theorem rE_bin {o : Bop} {a b : Xp} : runE P w cf ρ (.bin o a b) M = (runE P w cf ρ a M).zbind fun x M1 => (runE P w cf ρ b M1).zbind fun y M2 => binop o x y M2 := id rfl
@[simp] theorem rE_neg {a : Xp} : runE P w cf ρ (.neg a) M = (runE P w cf ρ a M).zbind fun x M1 => onI x fun i => .ok (.int (-i)) M1 := by
  show (runE P w cf ρ a M).bind _ = (runE P w cf ρ a M).bind _
  first | rfl | (congr 1; funext x M1; cases x <;> rfl)
@[simp] theorem rE_notV {a : Xp} : runE P w cf ρ (.notV a) M = (runE P w cf ρ a M).zbind fun x M1 => onB x fun b => .ok (.bl (!b)) M1 := by
  show (runE P w cf ρ a M).bind _ = (runE P w cf ρ a M).bind _
  first | rfl | (congr 1; funext x M1; cases x <;> rfl)
@[simp] theorem rE_cmp {o : Cop} {a b : Xp} : runE P w cf ρ (.cmp o a b) M = (runE P w cf ρ a M).zbind fun x M1 => (runE P w cf ρ b M1).zbind fun y M2 => cmpop o x y M2 := id rfl
@[simp] theorem rE_and {as : Xps} : runE P w cf ρ (.andV as) M = runAnd P w cf ρ as M := id rfl
@[simp] theorem rE_or {as : Xps} : runE P w cf ρ (.orV as) M = runOr P w cf ρ as M := id rfl
@[simp] theorem rE_ife {t : Tp} {a b : Xp} : runE P w cf ρ (.ife t a b) M = (runT P w cf ρ t M).zbind fun k M1 => if k = true then runE P w cf ρ a M1 else runE P w cf ρ b M1 := by
  show (runT P w cf ρ t M).bind _ = (runT P w cf ρ t M).bind _
  first | rfl | (congr 1; funext k M1; cases k <;> rfl)
@[simp] theorem rE_call {f : Nat} {as : Xps} : runE P w cf ρ (.call f as) M = (runA P w cf ρ as M).zbind fun xs M1 => cf f xs M1 := id rfl
@[simp] theorem rE_mk {c : Nat} {as : Xps} : runE P w cf ρ (.mk c as) M = (runA P w cf ρ as M).zbind fun xs M1 => onO P.cls[c]? fun k => (cf k.init (.ptr M1.length :: xs) (M1 ++ [.ins c []])).zbind fun r M2 => if r matches .non then .ok (.ptr M1.length) M2 else .stuck := by
  show (runA P w cf ρ as M).bind _ = (runA P w cf ρ as M).bind _
  congr 1; funext x M1
  cases P.cls[c]? with
  | none => rfl
  | some k =>
    show (cf k.init (.ptr M1.length :: x) (M1 ++ [.ins c []])).bind _ = (cf k.init (.ptr M1.length :: x) (M1 ++ [.ins c []])).bind _
    congr 1; funext r M2
    cases r <;> rfl
@[simp] theorem rE_meth {o : Xp} {m : Nat} {as : Xps} : runE P w cf ρ (.meth o m as) M = (runE P w cf ρ o M).zbind fun x M1 => onP x fun n => onN M1[n]? fun c fs => onO ((P.cls[c]?).bind fun k => findM m k.meths) fun g =>
    if getF m fs = none then (runA P w cf ρ as M1).zbind fun xs M2 => cf g (.ptr n :: xs) M2 else .stuck := by
  show (runE P w cf ρ o M).bind _ = (runE P w cf ρ o M).bind _
  congr 1; funext x M1
  cases x with
  | ptr n =>
    simp only [onP_ptr]
    cases h : M1[n]? with
    | none => rfl
    | some ob =>
      cases ob with
      | ins c fs =>
        simp only [onN_ins]
        cases h2 : (P.cls[c]?).bind fun k => findM m k.meths with
        | none => rfl
        | some g =>
          simp only [onO_some]
          cases h3 : getF m fs <;> rfl
      | dead => rfl
      | lst _ => rfl
  | _ => rfl
@[simp] theorem rE_bi {f : Bi} {as : Xps} : runE P w cf ρ (.bi f as) M = (runA P w cf ρ as M).zbind fun xs M1 => birun f xs M1 := id rfl
@[simp] theorem rE_bm {f : Bm} {o : Xp} {as : Xps} : runE P w cf ρ (.bm f o as) M = (runE P w cf ρ o M).zbind fun x M1 => if (listOf M1 x).isSome = true then (runA P w cf ρ as M1).zbind fun xs M2 => bmrun f x xs M2 else .stuck := by
  show (runE P w cf ρ o M).bind _ = (runE P w cf ρ o M).bind _
  first | rfl | (congr 1; funext x M1; cases (listOf M1 x).isSome <;> rfl)
@[simp] theorem rE_isi {a : Xp} {t : Ty} : runE P w cf ρ (.isi a t) M = (runE P w cf ρ a M).zbind fun x M1 => onO (isTy M1 t x) fun b => .ok (.bl b) M1 := by
  show (runE P w cf ρ a M).bind _ = (runE P w cf ρ a M).bind _
  first | rfl | (congr 1; funext x M1; cases isTy M1 t x <;> rfl)
@[simp] theorem rE_fld {o : Xp} {f : Nat} : runE P w cf ρ (.fld o f) M = (runE P w cf ρ o M).zbind fun x M1 => onP x fun n => onN M1[n]? fun c fs => if hasF P c f = true then onO (getF f fs) fun v => .ok v M1 else .stuck := by
  show (runE P w cf ρ o M).bind _ = (runE P w cf ρ o M).bind _
  congr 1; funext x M1
  cases x with
  | ptr n =>
    simp only [onP_ptr]
    cases h : M1[n]? with
    | none => rfl
    | some ob =>
      cases ob with
      | ins c fs =>
        simp only [onN_ins]
        cases h2 : hasF P c f
        · rfl
        · cases h3 : getF f fs <;> rfl
      | dead => rfl
      | lst _ => rfl
  | _ => rfl
@[simp] theorem rE_ix {o i : Xp} : runE P w cf ρ (.ix o i) M = (runE P w cf ρ o M).zbind fun x M1 => (runE P w cf ρ i M1).zbind fun y M2 => ixd M2 x y := id rfl
@[simp] theorem rE_sl {o : Xp} {lo hi : Op} : runE P w cf ρ (.sl o lo hi) M = (runE P w cf ρ o M).zbind fun x M1 => (runO P w cf ρ lo M1).zbind fun l M2 => (runO P w cf ρ hi M2).zbind fun h M3 => sld M3 x l h := id rfl
@[simp] theorem rE_tup {as : Xps} : runE P w cf ρ (.tup as) M = (runA P w cf ρ as M).zbind fun xs M1 => if xs.length ≤ big then .ok (.tup xs) M1 else .stuck := id rfl
@[simp] theorem rE_lst {hot : Bool} {as : Xps} : runE P w cf ρ (.lst hot as) M = (runA P w cf ρ as M).zbind fun xs M1 => if xs.length ≤ big then newL hot xs M1 else .stuck := id rfl
/-- a comprehension's turn -/
def lcT (P : Pg) (w : Nat) (cf : Nat → List D → Store → Res D) (ρ : Rho) (g : Gp) (t : Tps) (e : Xp) : D → Store → Res (Option D) := fun x M => onO (bindG g x (wipeR ρ (gslots g))) fun ρ' =>
    ((runTs P w cf ρ' t M).noerr).zbind fun b M2 => if b = true then ((runE P w cf ρ' e M2).noerr).zbind fun y M3 => .ok (some y) M3 else .ok none M2
def lcW (f : D → Store → Res (Option D)) (w : Nat) (k : Wk) (M : Store) : Res (List D) := match k with
  | .items xs => lcA f xs [] M
  | .hot n => lcH n f w 0 [] M
@[simp] theorem lcW_items {f : D → Store → Res (Option D)} {xs : List D} : lcW f w (.items xs) M = lcA f xs [] M := id rfl
@[simp] theorem lcW_hot {f : D → Store → Res (Option D)} {n : Nat} : lcW f w (.hot n) M = lcH n f w 0 [] M := id rfl
@[simp] theorem rE_lc {hot : Bool} {g : Gp} {it : Ip} {t : Tps} {e : Xp} : runE P w cf ρ (.lc hot g it t e) M = (runI P w cf ρ it M).zbind fun k M1 => (lcW (lcT P w cf ρ g t e) w k M1).zbind fun ys M2 => newL hot ys M2 := by
  have hf : (fun x M => match bindG g x (wipeR ρ (gslots g)) with
      | some ρ' => ((runTs P w cf ρ' t M).noerr).bind fun b M2 => match b with
        | true => ((runE P w cf ρ' e M2).noerr).bind fun y M3 => Res.ok (some y) M3
        | false => .ok none M2
      | none => .stuck) = lcT P w cf ρ g t e := by
    funext x M
    unfold lcT
    cases bindG g x (wipeR ρ (gslots g)) with
    | none => rfl
    | some ρ' =>
      simp only [onO_some]
      show Res.bind _ _ = Res.bind _ _
      first | rfl | (congr 1; funext b M2; cases b <;> rfl)
  show (runI P w cf ρ it M).bind _ = (runI P w cf ρ it M).bind _
  congr 1; funext k M1
  rw [← hf]
  cases k <;> rfl
def frzD (x : D) (M : Store) : Res D := match x with
  | .ptr n => onL M[n]? fun xs => .ok (.lst xs) (M.set n .dead)
  | d => .ok d M
@[simp] theorem frz_ptr {n : Nat} : frzD (.ptr n) M = onL M[n]? fun xs => .ok (.lst xs) (M.set n .dead) := id rfl
@[simp] theorem frz_lst {xs : List D} : frzD (.lst xs) M = .ok (.lst xs) M := id rfl
@[simp] theorem rE_frz {e : Xp} : runE P w cf ρ (.frz e) M = (runE P w cf ρ e M).zbind fun x M1 => frzD x M1 := by
  show (runE P w cf ρ e M).bind _ = (runE P w cf ρ e M).bind _
  refine congrArg _ (funext fun x => funext fun M1 => ?_)
  cases x with
  | ptr n =>
    show (match M1[n]? with | some (.lst xs) => Res.ok (D.lst xs) (M1.set n .dead) | _ => .stuck) = onL M1[n]? _
    cases h : M1[n]? with
    | none => rfl
    | some ob => cases ob <;> rfl
  | _ => rfl
def lrgI (hot : Bool) (i : Int) (M : Store) : Res D := if -16777216 ≤ i ∧ i ≤ 16777216 then newL hot (rngOf 0 i) M else .stuck
theorem lrgI_nat {hot : Bool} {k : Nat} (h : k ≤ 16777216) : lrgI hot (k : Int) M = newL hot ((List.range k).map fun (i : Nat) => D.int (i : Int)) M := by
  have e : rngOf 0 (k : Int) = (List.range k).map fun (i : Nat) => D.int (i : Int) := by
    unfold rngOf
    simp
  unfold lrgI
  rw [if_pos (by omega), e]
@[simp] theorem rE_lrg {hot : Bool} {a : Xp} : runE P w cf ρ (.lrg hot a) M = (runE P w cf ρ a M).zbind fun x M1 => onI x fun i => lrgI hot i M1 := by
  show (runE P w cf ρ a M).bind _ = (runE P w cf ρ a M).bind _
  refine congrArg _ (funext fun x => funext fun M1 => ?_)
  cases x <;> rfl
@[simp] theorem rA_nil : runA P w cf ρ .nil M = .ok [] M := id rfl
@[simp] theorem rA_cons {e : Xp} {r : Xps} : runA P w cf ρ (.cons e r) M = (runE P w cf ρ e M).zbind fun x M1 => (runA P w cf ρ r M1).zbind fun xs M2 => .ok (x :: xs) M2 := id rfl
@[simp] theorem rO_no : runO P w cf ρ .no M = .ok none M := id rfl
@[simp] theorem rO_so {e : Xp} : runO P w cf ρ (.so e) M = (runE P w cf ρ e M).zbind fun x M1 => onI x fun i => .ok (some i) M1 := by
  show (runE P w cf ρ e M).bind _ = (runE P w cf ρ e M).bind _
  first | rfl | (congr 1; funext x M1; cases x <;> rfl)
@[simp] theorem rAnd_1 {e : Xp} : runAnd P w cf ρ (.cons e .nil) M = runE P w cf ρ e M := id rfl
@[simp] theorem rAnd_2 {e e2 : Xp} {r : Xps} : runAnd P w cf ρ (.cons e (.cons e2 r)) M = (runE P w cf ρ e M).zbind fun x M1 => onB x fun b => if b = true then runAnd P w cf ρ (.cons e2 r) M1 else .ok (.bl false) M1 := by
  show (runE P w cf ρ e M).bind _ = (runE P w cf ρ e M).bind _
  congr 1; funext x M1
  cases x with
  | bl b => cases b <;> rfl
  | _ => rfl
@[simp] theorem rOr_1 {e : Xp} : runOr P w cf ρ (.cons e .nil) M = runE P w cf ρ e M := id rfl
@[simp] theorem rOr_2 {e e2 : Xp} {r : Xps} : runOr P w cf ρ (.cons e (.cons e2 r)) M = (runE P w cf ρ e M).zbind fun x M1 => onB x fun b => if b = true then .ok (.bl true) M1 else runOr P w cf ρ (.cons e2 r) M1 := by
  show (runE P w cf ρ e M).bind _ = (runE P w cf ρ e M).bind _
  congr 1; funext x M1
  cases x with
  | bl b => cases b <;> rfl
  | _ => rfl
@[simp] theorem rT_val {e : Xp} : runT P w cf ρ (.val e) M = (runE P w cf ρ e M).zbind fun x M1 => onO (truth M1 x) fun b => .ok b M1 := by
  show (runE P w cf ρ e M).bind _ = (runE P w cf ρ e M).bind _
  first | rfl | (congr 1; funext x M1; cases truth M1 x <;> rfl)
@[simp] theorem rT_cmp {o : Cop} {a b : Xp} : runT P w cf ρ (.cmp o a b) M = (runE P w cf ρ a M).zbind fun x M1 => (runE P w cf ρ b M1).zbind fun y M2 => (cmpop o x y M2).zbind fun z M3 => onB z fun k => .ok k M3 := by
  show (runE P w cf ρ a M).bind _ = (runE P w cf ρ a M).bind _
  first | rfl | (congr 1; funext x M1; congr 1; funext y M2; congr 1; funext z M3; cases z <;> rfl)
@[simp] theorem rT_not {t : Tp} : runT P w cf ρ (.tnot t) M = (runT P w cf ρ t M).zbind fun k M1 => .ok (!k) M1 := id rfl
@[simp] theorem rT_and {t : Tps} : runT P w cf ρ (.tand t) M = runTs P w cf ρ t M := id rfl
@[simp] theorem rT_or {t : Tps} : runT P w cf ρ (.tor t) M = runTo P w cf ρ t M := id rfl
@[simp] theorem rTs_0 : runTs P w cf ρ .nil M = .ok true M := id rfl
@[simp] theorem rTs_1 {t : Tp} : runTs P w cf ρ (.cons t .nil) M = runT P w cf ρ t M := id rfl
@[simp] theorem rTs_2 {t t2 : Tp} {r : Tps} : runTs P w cf ρ (.cons t (.cons t2 r)) M = (runT P w cf ρ t M).zbind fun k M1 => if k = true then runTs P w cf ρ (.cons t2 r) M1 else .ok false M1 := by
  show (runT P w cf ρ t M).bind _ = (runT P w cf ρ t M).bind _
  first | rfl | (congr 1; funext k M1; cases k <;> rfl)
@[simp] theorem rTo_1 {t : Tp} : runTo P w cf ρ (.cons t .nil) M = runT P w cf ρ t M := id rfl
@[simp] theorem rTo_2 {t t2 : Tp} {r : Tps} : runTo P w cf ρ (.cons t (.cons t2 r)) M = (runT P w cf ρ t M).zbind fun k M1 => if k = true then .ok true M1 else runTo P w cf ρ (.cons t2 r) M1 := by
  show (runT P w cf ρ t M).bind _ = (runT P w cf ρ t M).bind _
  first | rfl | (congr 1; funext k M1; cases k <;> rfl)
@[simp] theorem rI_val {e : Xp} : runI P w cf ρ (.val e) M = (runE P w cf ρ e M).zbind fun x M1 => onO (walkOf M1 x) fun k => .ok k M1 := by
  show (runE P w cf ρ e M).bind _ = (runE P w cf ρ e M).bind _
  first | rfl | (congr 1; funext x M1; cases walkOf M1 x <;> rfl)
def rngI (i : Int) (M : Store) : Res Wk := if rngOk 0 i then .ok (.items (rngOf 0 i)) M else .stuck
@[simp] theorem rI_rng1 {a : Xp} : runI P w cf ρ (.rng1 a) M = (runE P w cf ρ a M).zbind fun x M1 => onI x fun i => rngI i M1 := by
  show (runE P w cf ρ a M).bind _ = (runE P w cf ρ a M).bind _
  refine congrArg _ (funext fun x => funext fun M1 => ?_)
  cases x <;> rfl
theorem rngI_nat {k : Nat} (h : k ≤ 16777216) : rngI (k : Int) M = .ok (.items ((List.range k).map fun (i : Nat) => D.int (i : Int))) M := by
  have hr : rngOk 0 (k : Int) = true := by
    simp only [rngOk, Bool.and_eq_true, decide_eq_true_eq]
    omega
  have e : rngOf 0 (k : Int) = (List.range k).map fun (i : Nat) => D.int (i : Int) := by
    unfold rngOf
    simp
  unfold rngI
  rw [if_pos hr, e]
@[simp] theorem rSs_nil : runSs P w cf .nil ρ M = some (.nx ρ, M) := id rfl
@[simp] theorem rSs_cons {s : Sm} {r : Sms} : runSs P w cf (.cons s r) ρ M = zthen (runS P w cf s ρ M) fun ρ' M' => runSs P w cf r ρ' M' := id rfl
@[simp] theorem rS_asg {i : Nat} {e : Xp} : runS P w cf (.asg (.n i) e) ρ M = zwith (runE P w cf ρ e M) ρ fun d M1 => some (.nx (ρ.set i (some d)), M1) := id rfl
@[simp] theorem rS_asgT {gs : List Nat} {e : Xp} : runS P w cf (.asg (.t gs) e) ρ M = zwith (runE P w cf ρ e M) ρ fun d M1 => oO (bindG (.t gs) d ρ) fun ρ' => some (.nx ρ', M1) := by
  show withE (runE P w cf ρ e M) ρ _ = withE (runE P w cf ρ e M) ρ _
  first | rfl | (congr 1; funext d M1; cases bindG (.t gs) d ρ <;> rfl)
@[simp] theorem rS_ex {e : Xp} : runS P w cf (.ex e) ρ M = zwith (runE P w cf ρ e M) ρ fun _ M1 => some (.nx ρ, M1) := id rfl
@[simp] theorem rS_ite {t : Tp} {a b : Sms} : runS P w cf (.ite t a b) ρ M = zwith (runT P w cf ρ t M) ρ fun k M1 => if k = true then runSs P w cf a ρ M1 else runSs P w cf b ρ M1 := by
  show withE (runT P w cf ρ t M) ρ _ = withE (runT P w cf ρ t M) ρ _
  first | rfl | (congr 1; funext k M1; cases k <;> rfl)
/-- a loop's turn -/
def foT (P : Pg) (w : Nat) (cf : Nat → List D → Store → Res D) (g : Gp) (b : Sms) : D → Rho → Store → Out := fun x ρ M => oO (bindG g x ρ) fun ρ' => runSs P w cf b ρ' M
def foW (f : D → Rho → Store → Out) (w : Nat) (k : Wk) (ρ : Rho) (M : Store) : Out := match k with
  | .items xs => forL f xs ρ M
  | .hot n => forH n f w 0 ρ M
@[simp] theorem foW_items {f : D → Rho → Store → Out} {xs : List D} : foW f w (.items xs) ρ M = forL f xs ρ M := id rfl
@[simp] theorem foW_hot {f : D → Rho → Store → Out} {n : Nat} : foW f w (.hot n) ρ M = forH n f w 0 ρ M := id rfl
@[simp] theorem rS_fo {g : Gp} {it : Ip} {b : Sms} : runS P w cf (.fo g it b) ρ M = zwith (runI P w cf ρ it M) ρ fun k M1 => foW (foT P w cf g b) w k ρ M1 := by
  have hf : (fun x ρ M => match bindG g x ρ with | some ρ' => runSs P w cf b ρ' M | none => none) = foT P w cf g b := by
    funext x ρ M
    unfold foT
    cases bindG g x ρ <;> rfl
  show withE (runI P w cf ρ it M) ρ _ = withE (runI P w cf ρ it M) ρ _
  congr 1; funext k M1
  rw [← hf]
  cases k <;> rfl
@[simp] theorem rS_ret {e : Xp} : runS P w cf (.ret e) ρ M = zwith (runE P w cf ρ e M) ρ fun d M1 => some (.rt d, M1) := id rfl
@[simp] theorem rS_rais {c : Nat} {as : Xps} : runS P w cf (.rais c as) ρ M = zwith (runA P w cf ρ as M) ρ fun xs M1 => oO P.ers[c]? fun e => if xs.length = e.flds.length then some (.er c xs.reverse ρ, M1) else none := by
  show withE (runA P w cf ρ as M) ρ _ = withE (runA P w cf ρ as M) ρ _
  first | rfl | (congr 1; funext xs M1; cases P.ers[c]? <;> rfl)
@[simp] theorem rS_asgI {o i e : Xp} : runS P w cf (.asgI o i e) ρ M = zwith (runE P w cf ρ e M) ρ fun d M1 => zwith (runE P w cf ρ o M1) ρ fun x M2 => zwith (runE P w cf ρ i M2) ρ fun y M3 =>
    oP x fun n => oI y fun k => oL M3[n]? fun xs => oO (L2.ixN xs.length k) fun j => some (.nx ρ, M3.set n (.lst (xs.set j d))) := by
  show withE (runE P w cf ρ e M) ρ _ = withE (runE P w cf ρ e M) ρ _
  congr 1; funext d M1; congr 1; funext x M2; congr 1; funext y M3
  cases x with
  | ptr n =>
    cases y with
    | int k =>
      simp only [oP_ptr, oI_int]
      cases h : M3[n]? with
      | none => rfl
      | some ob =>
        cases ob with
        | lst xs =>
          simp only [oL_lst]
          cases L2.ixN xs.length k <;> rfl
        | _ => rfl
    | _ => rfl
  | _ => rfl
@[simp] theorem rS_augI {o i e : Xp} {op : Bop} : runS P w cf (.augI o i op e) ρ M = zwith (runE P w cf ρ o M) ρ fun x M1 => zwith (runE P w cf ρ i M1) ρ fun y M2 =>
    oP x fun n => oI y fun k => oL M2[n]? fun xs => oO (L2.atI xs k) fun u => oI u fun a => zwith (runE P w cf ρ e M2) ρ fun z M3 => oI z fun b => oL M3[n]? fun ys => oO (L2.ixN ys.length k) fun j =>
      match op with
      | .add => some (.nx ρ, M3.set n (.lst (ys.set j (.int (a + b)))))
      | .sub => some (.nx ρ, M3.set n (.lst (ys.set j (.int (a - b)))))
      | _ => none := by
  show withE (runE P w cf ρ o M) ρ _ = withE (runE P w cf ρ o M) ρ _
  congr 1; funext x M1; congr 1; funext y M2
  cases x with
  | ptr n =>
    cases y with
    | int k =>
      simp only [oP_ptr, oI_int]
      cases h : M2[n]? with
      | none => rfl
      | some ob =>
        cases ob with
        | lst xs =>
          simp only [oL_lst]
          cases h2 : L2.atI xs k with
          | none => rfl
          | some u =>
            simp only [oO_some]
            cases u with
            | int a =>
              simp only [oI_int]
              congr 1; funext z M3
              cases z with
              | int b =>
                simp only [oI_int]
                cases h : M3[n]? with
                | none => rfl
                | some ob =>
                  cases ob with
                  | lst ys =>
                    simp only [oL_lst]
                    cases L2.ixN ys.length k with
                    | none => rfl
                    | some j => cases op <;> rfl
                  | _ => rfl
              | _ => rfl
            | _ => rfl
        | _ => rfl
    | _ => rfl
  | _ => rfl
@[simp] theorem rS_asgF {o e : Xp} {f : Nat} : runS P w cf (.asgF o f e) ρ M = zwith (runE P w cf ρ e M) ρ fun d M1 => zwith (runE P w cf ρ o M1) ρ fun x M2 => oP x fun n => oN M2[n]? fun c fs =>
    if hasF P c f ∧ fs.length < 900 then some (.nx ρ, M2.set n (.ins c (setF f d fs))) else none := by
  show withE (runE P w cf ρ e M) ρ _ = withE (runE P w cf ρ e M) ρ _
  refine congrArg _ (funext fun d => funext fun M1 => congrArg _ (funext fun x => funext fun M2 => ?_))
  cases x with
  | ptr n =>
    simp only [oP_ptr]
    cases h : M2[n]? with
    | none => rfl
    | some ob => cases ob <;> rfl
  | _ => rfl
theorem rS_tr {b : Sms} {hs : List (Nat × Nat × Hx)} : runS P w cf (.tr b hs) ρ M = match runSs P w cf b ρ M with | some (.er c fs ρ', M') => handle P c fs ρ' M' hs | o => o := id rfl
theorem callF_eq {n f : Nat} {k : Fn} {as : List D} (hk : P.fns[f]? = some k) (hl : as.length = k.np) :
    callF P w (n + 1) f as M = finish k.trunc M (runSs P w (callF P w n) k.body (as.map some ++ List.replicate (k.names.length - k.np) none) M) := by
  rw [callF, hk]; simp [hl]
@[simp] theorem bi_len {x : D} : birun .len [x] M = onO (seqOf M x) fun xs => .ok (.int xs.length) M := by
  show (match seqOf M x with | some xs => Res.ok (D.int xs.length) M | none => .stuck) = _
  cases seqOf M x <;> rfl
@[simp] theorem bi_sum {x : D} : birun .sum [x] M = onO ((seqOf M x).bind intsOf) fun ns => .ok (.int ns.sum) M := by
  show (match (seqOf M x).bind intsOf with | some ns => Res.ok (D.int ns.sum) M | none => .stuck) = _
  cases (seqOf M x).bind intsOf <;> rfl
@[simp] theorem bi_max1 {x : D} : birun .max1 [x] M = onO (((seqOf M x).bind intsOf).bind maxOf) fun m => .ok (.int m) M := by
  show (match ((seqOf M x).bind intsOf).bind maxOf with | some m => Res.ok (D.int m) M | none => .stuck) = _
  cases ((seqOf M x).bind intsOf).bind maxOf <;> rfl
@[simp] theorem bi_min1 {x : D} : birun .min1 [x] M = onO (((seqOf M x).bind intsOf).bind minOf) fun m => .ok (.int m) M := by
  show (match ((seqOf M x).bind intsOf).bind minOf with | some m => Res.ok (D.int m) M | none => .stuck) = _
  cases ((seqOf M x).bind intsOf).bind minOf <;> rfl
@[simp] theorem bi_max2 {i j : Int} : birun .max2 [.int i, .int j] M = .ok (.int (if j > i then j else i)) M := id rfl
@[simp] theorem bi_min2 {i j : Int} : birun .min2 [.int i, .int j] M = .ok (.int (if j < i then j else i)) M := id rfl
@[simp] theorem bi_abs {i : Int} : birun .abs [.int i] M = .ok (.int (if i < 0 then -i else i)) M := id rfl
@[simp] theorem bi_int {i : Int} : birun .int [.int i] M = .ok (.int i) M := id rfl
@[simp] theorem bi_sorted {x : D} : birun .sorted [x] M = onO ((listOf M x).bind intsOf) fun ns => .ok (.lst ((sortI ns).map D.int)) M := by
  show (match (listOf M x).bind intsOf with | some ns => Res.ok (D.lst ((sortI ns).map D.int)) M | none => .stuck) = _
  cases (listOf M x).bind intsOf <;> rfl
@[simp] theorem bi_list {hot : Bool} {x : D} : birun (.list hot) [x] M = onO (seqOf M x) fun xs => newL hot xs M := by
  show (match seqOf M x with | some xs => newL hot xs M | none => .stuck) = _
  cases seqOf M x <;> rfl
@[simp] theorem bi_tuple {x : D} : birun .tuple [x] M = onO (seqOf M x) fun xs => .ok (.tup xs) M := by
  show (match seqOf M x with | some xs => Res.ok (D.tup xs) M | none => .stuck) = _
  cases seqOf M x <;> rfl
@[simp] theorem newL_f {xs : List D} : newL false xs M = .ok (.lst xs) M := id rfl
@[simp] theorem newL_t {xs : List D} : newL true xs M = .ok (.ptr M.length) (M ++ [.lst xs]) := id rfl
@[simp] theorem seqOf_lst {xs : List D} : seqOf M (.lst xs) = some xs := id rfl
@[simp] theorem seqOf_tup {xs : List D} : seqOf M (.tup xs) = some xs := id rfl
@[simp] theorem seqOf_scr {ns : List Int} : seqOf M (.scr ns) = some (ns.map D.int) := id rfl
def obL : Option Ob → Option (List D) | some (.lst xs) => some xs | _ => none
@[simp] theorem obL_lst {xs : List D} : obL (some (.lst xs)) = some xs := id rfl
@[simp] theorem seqOf_ptr {n : Nat} : seqOf M (.ptr n) = obL M[n]? := by
  show (match M[n]? with | some (.lst xs) => some xs | _ => none) = _
  cases M[n]? with
  | none => rfl
  | some ob => cases ob <;> rfl
@[simp] theorem listOf_lst {xs : List D} : listOf M (.lst xs) = some xs := id rfl
@[simp] theorem listOf_ptr {n : Nat} : listOf M (.ptr n) = obL M[n]? := by
  show (match M[n]? with | some (.lst xs) => some xs | _ => none) = _
  cases M[n]? with
  | none => rfl
  | some ob => cases ob <;> rfl
@[simp] theorem walk_lst {xs : List D} : walkOf M (.lst xs) = some (.items xs) := id rfl
@[simp] theorem walk_tup {xs : List D} : walkOf M (.tup xs) = some (.items xs) := id rfl
@[simp] theorem walk_scr {xs : List Int} : walkOf M (.scr xs) = some (.items (xs.map D.int)) := id rfl
theorem walk_ptr {n : Nat} {xs : List D} (h : M[n]? = some (.lst xs)) : walkOf M (.ptr n) = some (.hot n) := by
  simp only [walkOf, h]
@[simp] theorem bm_append {n : Nat} {y : D} : bmrun .append (.ptr n) [y] M = onL M[n]? fun xs => if xs.length < big then .ok .non (M.set n (.lst (xs ++ [y]))) else .stuck := by
  show (match M[n]? with | some (.lst xs) => if xs.length < big then Res.ok D.non (M.set n (.lst (xs ++ [y]))) else .stuck | _ => .stuck) = _
  cases M[n]? with
  | none => rfl
  | some ob => cases ob <;> rfl
def popI (n : Nat) (i : Int) (xs : List D) (M : Store) : Res D := if 0 ≤ i ∧ i ≤ 16777216 ∧ i < xs.length then onO xs[i.toNat]? fun y => .ok y (M.set n (.lst (xs.eraseIdx i.toNat))) else .stuck
theorem popI_ok {n : Nat} {i : Int} {xs : List D} {y : D} (h0 : 0 ≤ i) (h1 : i ≤ 16777216) (h : xs[i.toNat]? = some y) : popI n i xs M = .ok y (M.set n (.lst (xs.eraseIdx i.toNat))) := by
  have := (List.getElem?_eq_some_iff.mp h).1
  unfold popI
  rw [if_pos ⟨h0, by omega, by omega⟩, h]; rfl
@[simp] theorem bm_popAt {n : Nat} {i : Int} : bmrun .popAt (.ptr n) [.int i] M = onL M[n]? fun xs => popI n i xs M := by
  unfold popI
  show (match M[n]? with | some (.lst xs) => if 0 ≤ i ∧ i ≤ 16777216 ∧ i < xs.length then match xs[i.toNat]? with | some y => Res.ok y (M.set n (.lst (xs.eraseIdx i.toNat))) | none => .stuck else .stuck | _ => .stuck) = _
  cases M[n]? with
  | none => rfl
  | some ob =>
    cases ob with
    | lst xs =>
      simp only [onL_lst]
      congr 1
      cases xs[i.toNat]? <;> rfl
    | _ => rfl
@[simp] theorem ixd_int {x : D} {i : Int} : ixd M x (.int i) = onO (seqOf M x) fun xs => onO (L2.atI xs i) fun v => .ok v M := by
  simp only [ixd]
  cases seqOf M x with
  | none => rfl
  | some xs =>
    simp only [onO_some]
    cases L2.atI xs i <;> rfl
@[simp] theorem sld_lst {xs : List D} {l h : Option Int} : sld M (.lst xs) l h = .ok (.lst (cutd xs l h)) M := id rfl
@[simp] theorem sld_scr {xs : List Int} {l h : Option Int} : sld M (.scr xs) l h = .ok (.lst (cutd (xs.map D.int) l h)) M := id rfl
@[simp] theorem isTy_int {t : Ty} {i : Int} : isTy M t (.int i) = some (t matches Ty.int) := by cases t <;> rfl
@[simp] theorem isTy_tup {t : Ty} {i : List D} : isTy M t (.tup i) = some (t matches Ty.tuple) := by cases t <;> rfl
@[simp] theorem isTy_lst {t : Ty} {i : List D} : isTy M t (.lst i) = some (t matches Ty.list) := by cases t <;> rfl
theorem isTy_ptr {n : Nat} {xs : List D} (h : M[n]? = some (.lst xs)) : isTy M .list (.ptr n) = some true := by
  simp only [isTy, h]
@[simp] theorem bindG_n {i : Nat} {d : D} {ρ : Rho} : bindG (.n i) d ρ = some (ρ.set i (some d)) := id rfl
theorem bindG_t {gs : List Nat} {ds : List D} {ρ : Rho} : bindG (.t gs) (.tup ds) ρ = if ds.length = gs.length then some ((gs.zip ds).foldl (fun ρ p => ρ.set p.1 (some p.2)) ρ) else none := id rfl
theorem bindG_l {gs : List Nat} {ds : List D} {ρ : Rho} : bindG (.t gs) (.lst ds) ρ = if ds.length = gs.length then some ((gs.zip ds).foldl (fun ρ p => ρ.set p.1 (some p.2)) ρ) else none := id rfl
end
@[simp] theorem finish_er {tr : Bool} {M M' : Store} {c : Nat} {fs : List D} {ρ : Rho} : finish tr M (some (.er c fs ρ, M')) = .err c fs M' := id rfl
theorem finish_rt_same {tr : Bool} {M M' : Store} {d : D} (h : M'.length = M.length) : finish tr M (some (.rt d, M')) = .ok d M' := by
  simp only [finish]; split <;> simp [← h]
theorem finish_nx_same {tr : Bool} {M M' : Store} {ρ : Rho} (h : M'.length = M.length) : finish tr M (some (.nx ρ, M')) = .ok .non M' := by
  simp only [finish]; split <;> simp [← h]
@[simp] theorem finish_rt0 {tr : Bool} {M : Store} {d : D} : finish tr M (some (.rt d, M)) = .ok d M := finish_rt_same rfl
@[simp] theorem finish_nx0 {tr : Bool} {M : Store} {ρ : Rho} : finish tr M (some (.nx ρ, M)) = .ok .non M := finish_nx_same rfl
/-- new places are let go -/
theorem finish_rt_cut {M M' R : Store} {d : D} (h : M' = M ++ R) (hd : underD M.length d = true) : finish true M (some (.rt d, M')) = .ok d M := by
  subst h
  simp only [finish]
  rw [if_pos ⟨rfl, hd, .inl (by simp)⟩]
  simp
/-- .. beside an older list of ints that has changed -/
theorem finish_rt_cut2 {M M' N R : Store} {d : D} (h : M' = N ++ R) (hl : N.length = M.length) (hd : underD M.length d = true) (hN : N.all (underO M.length) = true) : finish true M (some (.rt d, M')) = .ok d N := by
  subst h
  simp only [finish]
  rw [if_pos ⟨rfl, hd, .inr (by rw [← hl, List.take_left]; rw [hl]; exact hN)⟩]
  rw [← hl, List.take_left]
section
variable {M : Store}
@[simp] theorem add_ii {i j : Int} : binop .add (.int i) (.int j) M = .ok (.int (i + j)) M := id rfl
@[simp] theorem sub_ii {i j : Int} : binop .sub (.int i) (.int j) M = .ok (.int (i - j)) M := id rfl
theorem mul_ii {i j : Int} (h : (-18446744073709551616 < i ∧ i < 18446744073709551616) ∨ (-18446744073709551616 < j ∧ j < 18446744073709551616)) : binop .mul (.int i) (.int j) M = .ok (.int (i * j)) M := if_pos h
theorem fdiv_ii {i j : Int} (h : 0 < j ∧ j < 1073741824) : binop .fdiv (.int i) (.int j) M = .ok (.int (i / j)) M := if_pos h
theorem mod_ii {i j : Int} (h : 0 < j) : binop .mod (.int i) (.int j) M = .ok (.int (i % j)) M := if_pos h
theorem pow_ii {i j : Int} (h : 0 ≤ j ∧ j ≤ 1000000 ∧ i.natAbs < 18446744073709551616) : binop .pow (.int i) (.int j) M = .ok (.int (i ^ j.toNat)) M := if_pos h
@[simp] theorem pow_10_6 : binop .pow (.int 10) (.int 6) M = .ok (.int 1000000) M := by rw [pow_ii (by decide)]; rfl
@[simp] theorem pow_10_18 : binop .pow (.int 10) (.int 18) M = .ok (.int 1000000000000000000) M := by rw [pow_ii (by decide)]; rfl
theorem add_ll {xs ys : List D} (h : xs.length + ys.length ≤ big) : binop .add (.lst xs) (.lst ys) M = .ok (.lst (xs ++ ys)) M := if_pos h
theorem mul_li {xs : List D} {k : Int} (h : -16777216 ≤ k ∧ k ≤ 16777216 ∧ xs.length * k.toNat ≤ big) : binop .mul (.lst xs) (.int k) M = .ok (.lst (List.replicate k.toNat xs).flatten) M := if_pos h
@[simp] theorem lt_ii {i j : Int} : cmpop .lt (.int i) (.int j) M = .ok (.bl (decide (i < j))) M := id rfl
@[simp] theorem le_ii {i j : Int} : cmpop .le (.int i) (.int j) M = .ok (.bl (decide (i ≤ j))) M := id rfl
@[simp] theorem gt_ii {i j : Int} : cmpop .gt (.int i) (.int j) M = .ok (.bl (decide (j < i))) M := id rfl
@[simp] theorem ge_ii {i j : Int} : cmpop .ge (.int i) (.int j) M = .ok (.bl (decide (j ≤ i))) M := id rfl
theorem eq_dd {x y : D} (hx : okd 12 (top M x) = true) (hy : okd 12 (top M y) = true) : cmpop .eq x y M = .ok (.bl (eqd (top M x) (top M y))) M := if_pos ⟨hx, hy⟩
theorem ne_dd {x y : D} (hx : okd 12 (top M x) = true) (hy : okd 12 (top M y) = true) : cmpop .ne x y M = .ok (.bl (!eqd (top M x) (top M y))) M := if_pos ⟨hx, hy⟩
@[simp] theorem eq_ii {i j : Int} : cmpop .eq (.int i) (.int j) M = .ok (.bl (i == j)) M := by rw [eq_dd rfl rfl]; simp [top, eqd]
@[simp] theorem ne_ii {i j : Int} : cmpop .ne (.int i) (.int j) M = .ok (.bl (!(i == j))) M := by rw [ne_dd rfl rfl]; simp [top, eqd]
@[simp] theorem truth_bl {b : Bool} : truth M (.bl b) = some b := id rfl
@[simp] theorem truth_int {i : Int} : truth M (.int i) = some (i != 0) := id rfl
end
theorem atI_nat {α : Type} {xs : List α} {i : Nat} {v : α} (h : xs[i]? = some v) : L2.atI xs (i : Int) = some v := by
  have hl := (List.getElem?_eq_some_iff.mp h).1
  unfold L2.atI L2.ixN
  rw [if_pos (by omega), if_pos (by omega)]
  simpa using h
end G

/-! GLoop -/
set_option maxRecDepth 100000
set_option maxHeartbeats 4000000
namespace G
/-- an end that no loop takes back -/
def isEnd : Fl → Bool | .rt _ => true | .er _ _ _ => true | _ => false
theorem turn_end {e : Fl × Store} {go : Rho → Store → Out} (h : isEnd e.1 = true) : turn (some e) go = some e := by
  obtain ⟨fl, M⟩ := e
  cases fl <;> first | rfl | cases h
theorem forL_drop {α : Type} {l : List α} {g : α → D} {f : D → Rho → Store → Out} {ρs : Nat → Rho} {Ms : Nat → Store} {bad : Nat → Option (Fl × Store)} (he : ∀ i e, bad i = some e → isEnd e.1 = true)
    (h : ∀ i a, l[i]? = some a → f (g a) (ρs i) (Ms i) = match bad i with | some e => some e | none => some (.nx (ρs (i + 1)), Ms (i + 1))) :
    ∀ m k, k + m = l.length → forL f ((l.drop k).map g) (ρs k) (Ms k) = match ((List.range l.length).drop k).findSome? bad with | some e => some e | none => some (.nx (ρs l.length), Ms l.length)
  | 0, k, hk => by
    have hk : k = l.length := by omega
    subst hk
    have e1 : (List.range l.length).drop l.length = [] := List.drop_eq_nil_of_le (by simp)
    rw [e1]
    simp [forL]
  | m + 1, k, hk => by
    have hlt : k < l.length := by omega
    have hr : (List.range l.length).drop k = k :: (List.range l.length).drop (k + 1) := by
      rw [List.drop_eq_getElem_cons (by simpa using hlt), List.getElem_range]
    rw [hr, List.drop_eq_getElem_cons hlt, List.map_cons, forL, h k l[k] (by simp [hlt]), List.findSome?_cons]
    cases hb : bad k with
    | some e => simp only [turn_end (he k e hb)]
    | none =>
      simp only [turn_nx]
      exact forL_drop he h m (k + 1) (by omega)
theorem forL_seq {α : Type} {l : List α} {g : α → D} {f : D → Rho → Store → Out} (ρs : Nat → Rho) (Ms : Nat → Store) (bad : Nat → Option (Fl × Store)) {ρ : Rho} {M : Store} (hρ : ρs 0 = ρ) (hM : Ms 0 = M) (he : ∀ i e, bad i = some e → isEnd e.1 = true)
    (h : ∀ i a, l[i]? = some a → f (g a) (ρs i) (Ms i) = match bad i with | some e => some e | none => some (.nx (ρs (i + 1)), Ms (i + 1))) :
    forL f (l.map g) ρ M = match (List.range l.length).findSome? bad with | some e => some e | none => some (.nx (ρs l.length), Ms l.length) := by
  have := forL_drop he h l.length 0 (by omega)
  rw [← hρ, ← hM]
  simpa using this
/-- a loop that goes to its end -/
theorem forL_all {α : Type} {l : List α} {g : α → D} {f : D → Rho → Store → Out} (ρs : Nat → Rho) (Ms : Nat → Store) {ρ : Rho} {M : Store} (hρ : ρs 0 = ρ) (hM : Ms 0 = M) (h : ∀ i a, l[i]? = some a → f (g a) (ρs i) (Ms i) = some (.nx (ρs (i + 1)), Ms (i + 1))) :
    forL f (l.map g) ρ M = some (.nx (ρs l.length), Ms l.length) := by
  rw [forL_seq (l := l) (g := g) (f := f) ρs Ms (fun _ => none) hρ hM (fun i e h => by cases h) h]
  have : (List.range l.length).findSome? (fun _ => (none : Option (Fl × Store))) = none := by simp
  rw [this]
/-- by an invariant on slots and store: each turn goes on -/
theorem forL_inv {α : Type} {l : List α} {g : α → D} {f : D → Rho → Store → Out} (I : Nat → Rho → Store → Prop) {ρ : Rho} {M : Store} (h0 : I 0 ρ M) (h : ∀ i a ρ M, l[i]? = some a → I i ρ M → ∃ ρ' M', f (g a) ρ M = some (.nx ρ', M') ∧ I (i + 1) ρ' M') :
    ∃ ρ' M', forL f (l.map g) ρ M = some (.nx ρ', M') ∧ I l.length ρ' M' := by
  have key : ∀ m k ρ M, k + m = l.length → I k ρ M → ∃ ρ' M', forL f ((l.drop k).map g) ρ M = some (.nx ρ', M') ∧ I l.length ρ' M' := by
    intro m
    induction m with
    | zero =>
      intro k ρ M hk i
      have hk : k = l.length := by omega
      subst hk
      exact ⟨ρ, M, by simp [forL], i⟩
    | succ m ih =>
      intro k ρ M hk i
      have hlt : k < l.length := by omega
      obtain ⟨ρ', M', e, i'⟩ := h k l[k] ρ M (by simp [hlt]) i
      rw [List.drop_eq_getElem_cons hlt, List.map_cons, forL, e, turn_nx]
      exact ih (k + 1) ρ' M' (by omega) i'
  simpa using key l.length 0 ρ M (by omega) h0
theorem foT_app {P : Pg} {w : Nat} {cf : Nat → List D → Store → Res D} {g : Gp} {b : Sms} {x : D} {ρ : Rho} {M : Store} : foT P w cf g b x ρ M = oO (bindG g x ρ) fun ρ' => runSs P w cf b ρ' M := rfl
theorem lcT_app {P : Pg} {w : Nat} {cf : Nat → List D → Store → Res D} {ρ : Rho} {g : Gp} {t : Tps} {e : Xp} {x : D} {M : Store} : lcT P w cf ρ g t e x M = onO (bindG g x (wipeR ρ (gslots g))) fun ρ' => ((runTs P w cf ρ' t M).noerr).zbind fun b M2 => if b = true then ((runE P w cf ρ' e M2).noerr).zbind fun y M3 => .ok (some y) M3 else .ok none M2 := rfl
theorem rngOf_map (k : Nat) : rngOf 0 (k : Int) = (List.range k).map fun (i : Nat) => D.int (i : Int) := by
  unfold rngOf
  simp
theorem range_get {k i a : Nat} (h : (List.range k)[i]? = some a) : i < k ∧ a = i := by
  obtain ⟨h1, h2⟩ := List.getElem?_eq_some_iff.mp h
  simp at h1 h2
  exact ⟨h1, h2.symm⟩
theorem lcA_map {α : Type} {f : D → Store → Res (Option D)} {g k : α → D} {M : Store} : ∀ {l : List α} {acc : List D}, (∀ a ∈ l, f (g a) M = .ok (some (k a)) M) → acc.length + l.length ≤ big → lcA f (l.map g) acc M = .ok (acc ++ l.map k) M
  | [], acc, _, _ => by simp [lcA]
  | a :: l, acc, h, hb => by
    rw [List.length_cons] at hb
    rw [List.map_cons, lcA, h a List.mem_cons_self, bind_ok]
    simp only
    rw [if_pos (by omega), lcA_map (fun b hb => h b (List.mem_cons_of_mem _ hb)) (by rw [List.length_append]; simp; omega)]
    simp
theorem lcA_filter {α : Type} {f : D → Store → Res (Option D)} {g k : α → D} {p : α → Bool} {M : Store} : ∀ {l : List α} {acc : List D}, (∀ a ∈ l, f (g a) M = .ok (if p a = true then some (k a) else none) M) → acc.length + l.length ≤ big → lcA f (l.map g) acc M = .ok (acc ++ (l.filter p).map k) M
  | [], acc, _, _ => by simp [lcA]
  | a :: l, acc, h, hb => by
    rw [List.length_cons] at hb
    rw [List.map_cons, lcA, h a List.mem_cons_self, bind_ok]
    cases hp : p a
    · simp only [hp, Bool.false_eq_true, if_false, List.filter_cons]
      exact lcA_filter (fun b hb => h b (List.mem_cons_of_mem _ hb)) (by omega)
    · simp only [hp, if_true, List.filter_cons]
      rw [if_pos (by omega), lcA_filter (fun b hb => h b (List.mem_cons_of_mem _ hb)) (by rw [List.length_append]; simp; omega)]
      simp
/-- .. that changes the store, each item with a property -/
theorem lcA_inv {α : Type} {f : D → Store → Res (Option D)} {g : α → D} (I : Store → Prop) (p : α → D → Prop) : ∀ {l : List α} {acc : List D} {M : Store}, (∀ a ∈ l, ∀ M, I M → ∃ y M', f (g a) M = .ok (some y) M' ∧ I M' ∧ p a y) → I M → acc.length + l.length ≤ big →
    ∃ ys M', lcA f (l.map g) acc M = .ok (acc ++ ys) M' ∧ I M' ∧ ys.length = l.length ∧ ∀ (i : Nat) a y, l[i]? = some a → ys[i]? = some y → p a y
  | [], acc, M, _, i, _ => ⟨[], M, by simp [lcA], i, rfl, fun i a y h => by simp at h⟩
  | a :: l, acc, M, h, i, hb => by
    rw [List.length_cons] at hb
    obtain ⟨y, M1, e, i1, py⟩ := h a List.mem_cons_self M i
    obtain ⟨ys, M2, e2, i2, hl, hp⟩ := lcA_inv I p (acc := acc ++ [y]) (fun b hb => h b (List.mem_cons_of_mem _ hb)) i1 (by rw [List.length_append]; simp; omega)
    refine ⟨y :: ys, M2, ?_, i2, by simp [hl], fun j b z hj hz => ?_⟩
    · rw [List.map_cons, lcA, e, bind_ok]
      simp only
      rw [if_pos (by omega), e2]
      simp
    · cases j with
      | zero => simp at hj hz; subst hj hz; exact py
      | succ j => exact hp j b z (by simpa using hj) (by simpa using hz)
end G

/-! GLaz -/
set_option maxRecDepth 100000
namespace G
def trH (P : Pg) (hs : List (Nat × Nat × Hx)) (o : Out) : Out := match o with | some (.er c fs ρ', M') => handle P c fs ρ' M' hs | o => o
theorem rS_try {P : Pg} {w : Nat} {cf : Nat → List D → Store → Res D} {ρ : Rho} {M : Store} {b : Sms} {hs : List (Nat × Nat × Hx)} : runS P w cf (.tr b hs) ρ M = trH P hs (runSs P w cf b ρ M) := id rfl
@[simp] theorem trH_er {P : Pg} {hs : List (Nat × Nat × Hx)} {c : Nat} {fs : List D} {ρ : Rho} {M : Store} : trH P hs (some (.er c fs ρ, M)) = handle P c fs ρ M hs := id rfl
@[simp] theorem trH_nx {P : Pg} {hs : List (Nat × Nat × Hx)} {ρ : Rho} {M : Store} : trH P hs (some (.nx ρ, M)) = some (.nx ρ, M) := id rfl
@[simp] theorem trH_rt {P : Pg} {hs : List (Nat × Nat × Hx)} {d : D} {M : Store} : trH P hs (some (.rt d, M)) = some (.rt d, M) := id rfl
/-- a loop that goes to its end: a fold of a state that slots and store show -/
theorem forL_rel {α σ : Type} {l : List α} {g : α → D} {f : D → Rho → Store → Out} (R : σ → Rho → Store → Prop) (step : σ → α → σ) {s : σ} {ρ : Rho} {M : Store} (h0 : R s ρ M)
    (h : ∀ a ∈ l, ∀ s ρ M, R s ρ M → ∃ ρ' M', f (g a) ρ M = some (.nx ρ', M') ∧ R (step s a) ρ' M') : ∃ ρ' M', forL f (l.map g) ρ M = some (.nx ρ', M') ∧ R (l.foldl step s) ρ' M' := by
  induction l generalizing s ρ M with
  | nil => exact ⟨ρ, M, rfl, h0⟩
  | cons a l ih =>
    obtain ⟨ρ', M', e, r⟩ := h a List.mem_cons_self s ρ M h0
    rw [List.map_cons, forL, e, turn_nx]
    exact ih r fun b hb => h b (List.mem_cons_of_mem _ hb)
/-- a loop that looks for the first item with an end -/
theorem forL_find {α ε : Type} {l : List α} {g : α → D} {f : D → Rho → Store → Out} (R : Rho → Store → Prop) (bad : α → Option ε) (X : ε → Fl → Store → Prop) {ρ : Rho} {M : Store} (h0 : R ρ M)
    (h : ∀ a ∈ l, ∀ ρ M, R ρ M → match bad a with | none => ∃ ρ' M', f (g a) ρ M = some (.nx ρ', M') ∧ R ρ' M' | some e => ∃ fl M', f (g a) ρ M = some (fl, M') ∧ isEnd fl = true ∧ X e fl M') :
    match l.findSome? bad with | none => ∃ ρ' M', forL f (l.map g) ρ M = some (.nx ρ', M') ∧ R ρ' M' | some e => ∃ fl M', forL f (l.map g) ρ M = some (fl, M') ∧ X e fl M' := by
  induction l generalizing ρ M with
  | nil => exact ⟨ρ, M, rfl, h0⟩
  | cons a l ih =>
    have ha := h a List.mem_cons_self ρ M h0
    rw [List.findSome?_cons, List.map_cons, forL]
    cases hb : bad a with
    | some e =>
      rw [hb] at ha
      obtain ⟨fl, M', e1, e2, x⟩ := ha
      exact ⟨fl, M', by rw [e1, turn_end e2], x⟩
    | none =>
      rw [hb] at ha
      obtain ⟨ρ', M', e, r⟩ := ha
      have := ih r fun b hb => h b (List.mem_cons_of_mem _ hb)
      rw [e, turn_nx]
      exact this
/-- .. that returns -/
theorem forL_ret {α : Type} {l : List α} {g : α → D} {f : D → Rho → Store → Out} (R : Rho → Store → Prop) (bad : α → Option D) {ρ : Rho} {M : Store} (h0 : R ρ M) (hM : ∀ ρ' M', R ρ' M' → M' = M)
    (h : ∀ a ∈ l, ∀ ρ, R ρ M → match bad a with | none => ∃ ρ', f (g a) ρ M = some (.nx ρ', M) ∧ R ρ' M | some d => f (g a) ρ M = some (.rt d, M)) :
    match l.findSome? bad with | none => ∃ ρ', forL f (l.map g) ρ M = some (.nx ρ', M) ∧ R ρ' M | some d => forL f (l.map g) ρ M = some (.rt d, M) := by
  have key := forL_find (l := l) (g := g) (f := f) R bad (fun d fl M' => fl = .rt d ∧ M' = M) h0 fun a ha ρ M1 r => by
    have e := hM _ _ r
    subst e
    have := h a ha ρ r
    cases hb : bad a with
    | none => rw [hb] at this; obtain ⟨ρ', e, r⟩ := this; exact ⟨ρ', _, e, r⟩
    | some d => rw [hb] at this; exact ⟨_, _, this, rfl, rfl, rfl⟩
  cases hb : l.findSome? bad with
  | none => rw [hb] at key; obtain ⟨ρ', M', e, r⟩ := key; have := hM _ _ r; subst this; exact ⟨ρ', e, r⟩
  | some d => rw [hb] at key; obtain ⟨fl, M', e, rfl, rfl⟩ := key; exact e
/-- .. that raises -/
theorem forL_rai {α : Type} {l : List α} {g : α → D} {f : D → Rho → Store → Out} (R : Rho → Store → Prop) (bad : α → Option (Nat × List D)) {ρ : Rho} {M : Store} (h0 : R ρ M) (hM : ∀ ρ' M', R ρ' M' → M' = M)
    (h : ∀ a ∈ l, ∀ ρ, R ρ M → match bad a with | none => ∃ ρ', f (g a) ρ M = some (.nx ρ', M) ∧ R ρ' M | some d => ∃ ρ', f (g a) ρ M = some (.er d.1 d.2 ρ', M)) :
    match l.findSome? bad with | none => ∃ ρ', forL f (l.map g) ρ M = some (.nx ρ', M) ∧ R ρ' M | some d => ∃ ρ', forL f (l.map g) ρ M = some (.er d.1 d.2 ρ', M) := by
  have key := forL_find (l := l) (g := g) (f := f) R bad (fun d fl M' => (∃ ρ', fl = .er d.1 d.2 ρ') ∧ M' = M) h0 fun a ha ρ M1 r => by
    have e := hM _ _ r
    subst e
    have := h a ha ρ r
    cases hb : bad a with
    | none => rw [hb] at this; obtain ⟨ρ', e, r⟩ := this; exact ⟨ρ', _, e, r⟩
    | some d => rw [hb] at this; obtain ⟨ρ', e⟩ := this; exact ⟨_, _, e, rfl, ⟨_, rfl⟩, rfl⟩
  cases hb : l.findSome? bad with
  | none => rw [hb] at key; obtain ⟨ρ', M', e, r⟩ := key; have := hM _ _ r; subst this; exact ⟨ρ', e, r⟩
  | some d => rw [hb] at key; obtain ⟨fl, M', e, ⟨ρ', rfl⟩, rfl⟩ := key; exact ⟨ρ', e⟩
def Nx (o : Out) (I : Rho → Store → Prop) : Prop := ∃ ρ M, o = some (.nx ρ, M) ∧ I ρ M
def Rt (o : Out) (Q : D → Store → Prop) : Prop := ∃ d M, o = some (.rt d, M) ∧ Q d M
theorem Nx.step {o : Out} {k : Rho → Store → Out} {I : Rho → Store → Prop} (ρ : Rho) (M : Store) (h : o = some (.nx ρ, M)) (h' : Nx (k ρ M) I) : Nx (zthen o k) I := by subst h; exact h'
theorem Rt.step {o : Out} {k : Rho → Store → Out} {I : D → Store → Prop} (ρ : Rho) (M : Store) (h : o = some (.nx ρ, M)) (h' : Rt (k ρ M) I) : Rt (zthen o k) I := by subst h; exact h'
theorem Nx.then {o : Out} {k : Rho → Store → Out} {I J : Rho → Store → Prop} (h : Nx o I) (h' : ∀ ρ M, I ρ M → Nx (k ρ M) J) : Nx (zthen o k) J := by obtain ⟨ρ, M, rfl, i⟩ := h; exact h' ρ M i
theorem Rt.then {o : Out} {k : Rho → Store → Out} {I : Rho → Store → Prop} {J : D → Store → Prop} (h : Nx o I) (h' : ∀ ρ M, I ρ M → Rt (k ρ M) J) : Rt (zthen o k) J := by obtain ⟨ρ, M, rfl, i⟩ := h; exact h' ρ M i
theorem Nx.last {o : Out} {I : Rho → Store → Prop} (h : Nx o I) : Nx (zthen o fun ρ' M' => some (.nx ρ', M')) I := by obtain ⟨ρ, M, rfl, i⟩ := h; exact ⟨ρ, M, rfl, i⟩
theorem Nx.is {ρ : Rho} {M : Store} {I : Rho → Store → Prop} (h : I ρ M) : Nx (some (.nx ρ, M)) I := ⟨ρ, M, rfl, h⟩
theorem Nx.of {o : Out} {I : Rho → Store → Prop} (ρ : Rho) (M : Store) (e : o = some (.nx ρ, M)) (h : I ρ M) : Nx o I := ⟨ρ, M, e, h⟩
theorem Rt.of {o : Out} {k : Rho → Store → Out} {I : D → Store → Prop} (d : D) (M : Store) (e : o = some (.rt d, M)) (h : I d M) : Rt (zthen o k) I := by subst e; exact ⟨d, M, rfl, h⟩
theorem Nx.mono {o : Out} {I J : Rho → Store → Prop} (h : Nx o I) (f : ∀ ρ M, I ρ M → J ρ M) : Nx o J := by obtain ⟨ρ, M, e, i⟩ := h; exact ⟨ρ, M, e, f ρ M i⟩
abbrev Er1 := Nat × List D
def resE (e : Option Er1) (M : Store) : Res D := match e with | some e => .err e.1 e.2 M | none => .ok .non M
@[simp] theorem resE_none {M : Store} : resE none M = .ok .non M := id rfl
@[simp] theorem resE_some {M : Store} {e : Er1} : resE (some e) M = .err e.1 e.2 M := id rfl
def Rai (R : Rho → Prop) (M : Store) (e : Option Er1) (o : Out) : Prop := match e with
  | none => ∃ ρ', o = some (.nx ρ', M) ∧ R ρ'
  | some d => ∃ ρ', o = some (.er d.1 d.2 ρ', M)
theorem Rai.then {R R' : Rho → Prop} {M : Store} {e e' : Option Er1} {o : Out} {k : Rho → Store → Out} (h : Rai R M e o) (h' : ∀ ρ, R ρ → Rai R' M e' (k ρ M)) : Rai R' M (e.or e') (zthen o k) := by
  cases e with
  | none => obtain ⟨ρ, rfl, r⟩ := h; exact h' ρ r
  | some d => obtain ⟨ρ, rfl⟩ := h; exact ⟨ρ, rfl⟩
theorem Rai.last {R : Rho → Prop} {M : Store} {e : Option Er1} {o : Out} (h : Rai R M e o) : Rai R M e (zthen o fun ρ' M' => some (.nx ρ', M')) := by
  cases e with
  | none => obtain ⟨ρ, rfl, r⟩ := h; exact ⟨ρ, rfl, r⟩
  | some d => obtain ⟨ρ, rfl⟩ := h; exact ⟨ρ, rfl⟩
theorem Rai.fin {R : Rho → Prop} {M : Store} {e : Option Er1} {o : Out} {tr : Bool} (h : Rai R M e o) : finish tr M o = resE e M := by
  cases e with
  | none => obtain ⟨ρ, rfl, r⟩ := h; simp
  | some d => obtain ⟨ρ, rfl⟩ := h; simp
theorem Rai.loop {α : Type} {l : List α} {g : α → D} {f : D → Rho → Store → Out} {R : Rho → Prop} {bad : α → Option Er1} {ρ : Rho} {M : Store} (h0 : R ρ)
    (h : ∀ a ∈ l, ∀ ρ, R ρ → Rai R M (bad a) (f (g a) ρ M)) : Rai R M (l.findSome? bad) (forL f (l.map g) ρ M) := by
  have key := forL_rai (l := l) (g := g) (f := f) (M := M) (fun ρ M' => M' = M ∧ R ρ) bad ⟨rfl, h0⟩ (fun _ _ h => h.1) fun a ha ρ r => by
    have := h a ha ρ r.2
    cases hb : bad a with
    | none => rw [hb] at this; obtain ⟨ρ', e, r⟩ := this; exact ⟨ρ', e, rfl, r⟩
    | some d => rw [hb] at this; exact this
  cases hb : l.findSome? bad with
  | none => rw [hb] at key; obtain ⟨ρ', e, r⟩ := key; exact ⟨ρ', e, r.2⟩
  | some d => rw [hb] at key; exact key
/-- a call that raises or gives None -/
theorem Rai.ex {R : Rho → Prop} {ρ : Rho} {M : Store} {e : Option Er1} {r : Res D} (h : r = resE e M) (h0 : R ρ) : Rai R M e (zwith r ρ fun _ M1 => some (.nx ρ, M1)) := by
  subst h
  cases e with
  | none => exact ⟨ρ, rfl, h0⟩
  | some d => exact ⟨ρ, rfl⟩
def Walks (M : Store) (w : Wk) (ds : List D) : Prop := w = .items ds ∨ ∃ n, w = .hot n ∧ M[n]? = some (.lst ds)
theorem lcH_map {α : Type} {f : D → Store → Res (Option D)} {g k : α → D} {M : Store} {n : Nat} {l : List α} (hM : M[n]? = some (.lst (l.map g))) (h : ∀ a ∈ l, f (g a) M = .ok (some (k a)) M) (hb : l.length ≤ big) :
    ∀ (m i w : Nat), i + m = l.length → m < w → lcH n f w i ((l.take i).map k) M = .ok (l.map k) M
  | 0, i, 0, _, hw => by omega
  | 0, i, w + 1, e, _ => by
    have e : i = l.length := by omega
    subst e
    simp [lcH, hM]
  | m + 1, i, 0, _, hw => by omega
  | m + 1, i, w + 1, e, hw => by
    have hi : i < l.length := by omega
    have hg : (l.map g)[i]? = some (g l[i]) := by simp [hi]
    rw [lcH]
    simp only [hM, hg, h _ (List.getElem_mem hi), bind_ok]
    rw [if_pos (by simp; omega)]
    have := lcH_map hM h hb m (i + 1) w (by omega) (by omega)
    rw [List.take_succ_eq_append_getElem hi, List.map_append] at this
    simpa using this
theorem lcW_map {α : Type} {f : D → Store → Res (Option D)} {g k : α → D} {M : Store} {l : List α} {w : Wk} {W : Nat} (hw : Walks M w (l.map g)) (h : ∀ a ∈ l, f (g a) M = .ok (some (k a)) M) (hb : l.length ≤ big) (hW : l.length < W) : lcW f W w M = .ok (l.map k) M := by
  rcases hw with rfl | ⟨n, rfl, e⟩
  · rw [lcW_items, lcA_map h (by simpa using hb)]; simp
  · rw [lcW_hot]
    simpa using lcH_map e h hb l.length 0 W (by omega) hW
/-- a loop over a list of the store that stays -/
theorem forH_inv {α : Type} {l : List α} {g : α → D} {f : D → Rho → Store → Out} {j W : Nat} (I : Nat → Rho → Store → Prop) {ρ : Rho} {M : Store} (hj : ∀ i ρ M, I i ρ M → M[j]? = some (.lst (l.map g))) (hW : l.length < W) (h0 : I 0 ρ M) (h : ∀ i a ρ M, l[i]? = some a → I i ρ M → ∃ ρ' M', f (g a) ρ M = some (.nx ρ', M') ∧ I (i + 1) ρ' M') :
    ∃ ρ' M', forH j f W 0 ρ M = some (.nx ρ', M') ∧ I l.length ρ' M' := by
  have key : ∀ m k w ρ M, k + m = l.length → m < w → I k ρ M → ∃ ρ' M', forH j f w k ρ M = some (.nx ρ', M') ∧ I l.length ρ' M' := by
    intro m
    induction m with
    | zero =>
      intro k w ρ M hk hw i
      obtain ⟨w, rfl⟩ : ∃ v, w = v + 1 := ⟨w - 1, by omega⟩
      have hk : k = l.length := by omega
      subst hk
      exact ⟨ρ, M, by simp [forH, hj _ _ _ i], i⟩
    | succ m ih =>
      intro k w ρ M hk hw i
      obtain ⟨w, rfl⟩ : ∃ v, w = v + 1 := ⟨w - 1, by omega⟩
      have hlt : k < l.length := by omega
      obtain ⟨ρ', M', e, i'⟩ := h k l[k] ρ M (by simp [hlt]) i
      have hg : (l.map g)[k]? = some (g l[k]) := by simp [hlt]
      rw [forH]
      simp only [hj _ _ _ i, hg, e, turn_nx]
      exact ih (k + 1) w ρ' M' (by omega) (by omega) i'
  exact key l.length 0 W ρ M (by omega) hW h0
theorem range_mem {k i : Nat} (h : i ∈ List.range k) : i < k := List.mem_range.mp h
end G

/-! A27 -/
set_option maxRecDepth 100000
set_option maxHeartbeats 4000000
namespace K27
open G
variable {W : Nat}
variable {n : Nat} {M : Store}
abbrev il (l : List Int) : List D := l.map D.int
theorem er0 : P.ers[0]? = some ⟨"TooMany", [1], [0]⟩ := rfl
theorem er1 : P.ers[1]? = some ⟨"BadBench", [0, 1], [1]⟩ := rfl
theorem il_get {l : List Int} {i : Nat} {a : Int} (h : l[i]? = some a) : L2.atI (il l) (i : Int) = some (.int a) := atI_nat (by simp [h])
theorem is_whole_int (v : Int) : callF P W (n + 1) 0 [.int v] M = .ok (.bl true) M := by
  rw [callF_eq (k := f0) rfl rfl]
  simp [f0, b0]
theorem check_most (v m : Int) (x : PySem.Str) : callF P W (n + 2) 1 [.int v, .int m, .str x] M = if m < v then .err 0 [.str x] M else .ok .non M := by
  rw [callF_eq (k := f1) rfl rfl]
  simp [f1, b1, is_whole_int]
  by_cases h : m < v
  · simp [h, er0]
  · simp [h]
/-- the first number below 1 -/
def low (l : List Int) : Option Nat := (List.range l.length).find? fun i => decide (l[i]?.getD 0 < 1)
def lowE1 (l : List Int) (i : Nat) : Option (Nat × List D) := if l[i]?.getD 0 < 1 then some (1, [.int i, .str "stop"]) else none
def lowE (l : List Int) : Option (Nat × List D) := (List.range l.length).findSome? (lowE1 l)
theorem check_stops (l : List Int) (hl : l.length ≤ 100000) : callF P W (n + 1) 2 [.lst (il l)] M = resE (lowE l) M := by
  rw [callF_eq (k := f2) rfl rfl]
  have key := forL_rai (l := List.range l.length) (g := fun (i : Nat) => D.int (i : Int)) (f := foT P W (callF P W n) (.n 1) b2_1) (fun ρ M' => M' = M ∧ ∃ a, ρ = [some (.lst (il l)), a])
    (lowE1 l) (ρ := [some (.lst (il l)), none]) (M := M) ⟨rfl, _, rfl⟩ (fun _ _ h => h.1) ?_
  · simp [f2, b2, rngI_nat (show l.length ≤ 16777216 by omega)]
    unfold lowE
    cases hb : (List.range l.length).findSome? (lowE1 l) with
    | none =>
      rw [hb] at key
      obtain ⟨ρ', e, _, a, rfl⟩ := key
      simp [e]
    | some d =>
      rw [hb] at key
      obtain ⟨ρ', e⟩ := key
      simp [e]
  · rintro i hi ρ ⟨_, a, rfl⟩
    have hi := range_mem hi
    have hg : l[i]? = some l[i] := by simp [hi]
    by_cases h : l[i] < 1
    · simp [foT_app, b2_1, il_get hg, hg, h, er1, lowE1]
    · simp [foT_app, b2_1, il_get hg, hg, h, lowE1]
/-- the purse as it lies in the store -/
abbrev pu (p : Int × Int × Int) : Ob := .lst [.int p.1, .int p.2.1, .int p.2.2]
theorem at0 {a b c : D} : L2.atI [a, b, c] 0 = some a := rfl
theorem at1 {a b c : D} : L2.atI [a, b, c] 1 = some b := rfl
theorem at2 {a b c : D} : L2.atI [a, b, c] 2 = some c := rfl
theorem ix0 : L2.ixN 3 0 = some 0 := rfl
theorem ix1 : L2.ixN 3 1 = some 1 := rfl
theorem ix2 : L2.ixN 3 2 = some 2 := rfl
theorem draw (p : Int × Int × Int) (m : Int) (hm : 0 < m) (hm2 : m < 1073741824) (R : Store) : ∃ v p', 0 ≤ v ∧ v < m ∧ callF P W (n + 1) 7 [.ptr 0, .int m] (pu p :: R) = .ok (.int v) (pu p' :: R) := by
  obtain ⟨a, b, c⟩ := p
  rw [callF_eq (k := f7) rfl rfl]
  by_cases h : 0 < a
  · refine ⟨a % m, (a / m, b, c), Int.emod_nonneg _ (by omega), Int.emod_lt_of_pos _ hm, ?_⟩
    simp [f7, b7, h, at0, at1, at2, ix0, ix1, ix2, mod_ii hm, fdiv_ii ⟨hm, hm2⟩, finish_rt_same]
  · refine ⟨((b * 48271 + (c + 1) * 69621) % 2147483647 * 16807 + (c + 1) * 7919) % 2147483629 / 8 % m, (a, (b * 48271 + (c + 1) * 69621) % 2147483647, c + 1), Int.emod_nonneg _ (by omega), Int.emod_lt_of_pos _ hm, ?_⟩
    simp [f7, b7, h, at0, at1, at2, ix0, ix1, ix2, mod_ii hm, mod_ii, fdiv_ii, mul_ii, finish_rt_same]
theorem finish_rt_keep {tr : Bool} {M M' : Store} {d : D} (h : underD M.length d = false) : finish tr M (some (.rt d, M')) = .ok d M' := by
  simp only [finish]
  rw [if_neg]
  rintro ⟨_, h2, _⟩
  rw [h] at h2; cases h2
theorem purse (ns : List Int) : ∃ p, callF P W (n + 1) 6 [.scr ns, .int 0] [] = .ok (.ptr 0) [pu p] := by
  rw [callF_eq (k := f6) rfl rfl]
  cases ns with
  | nil => exact ⟨(0, 12345, 0), by simp [f6, b6, mul_ii, mod_ii, cutd, HT.sIx, lcA, finish_rt_keep, underD, big, PySem.sizeLine]⟩
  | cons x r =>
    have h0 : L2.atI (D.int x :: r.map D.int) 0 = some (.int x) := by simpa using atI_nat (xs := D.int x :: r.map D.int) (i := 0) (v := .int x) rfl
    have h1 : (0 : Int) < (r.length : Int) + 1 := by omega
    by_cases h : x < 0
    · by_cases hz : 1000000000000000000 ≤ 2 * -x + 1
      · exact ⟨(2 * -x + 1, (2 * -x + 1 + 12345) % 2147483629, 0), by simp [f6, b6, mul_ii, mod_ii, h0, h1, h, hz, finish_rt_keep, underD, big, PySem.sizeLine]⟩
      · exact ⟨(0, (2 * -x + 1 + 12345) % 2147483629, 0), by simp [f6, b6, mul_ii, mod_ii, h0, h1, h, hz, finish_rt_keep, underD, big, PySem.sizeLine]⟩
    · by_cases hz : 1000000000000000000 ≤ 2 * x
      · exact ⟨(2 * x, (2 * x + 12345) % 2147483629, 0), by simp [f6, b6, mul_ii, mod_ii, h0, h1, h, hz, finish_rt_keep, underD, big, PySem.sizeLine]⟩
      · exact ⟨(0, (2 * x + 12345) % 2147483629, 0), by simp [f6, b6, mul_ii, mod_ii, h0, h1, h, hz, finish_rt_keep, underD, big, PySem.sizeLine]⟩
theorem st0 {R r : Store} {a : Ob} : (R ++ a :: r)[R.length]? = some a := by simp
theorem st1 {R r : Store} {a b : Ob} : (R ++ a :: b :: r)[R.length + 1]? = some b := by simp [List.getElem?_append]
theorem se0 {R r : Store} {a x : Ob} : (R ++ a :: r).set R.length x = R ++ x :: r := by simp
theorem se1 {R r : Store} {a b x : Ob} : (R ++ a :: b :: r).set (R.length + 1) x = R ++ a :: x :: r := by simp
theorem underDs_iff {k : Nat} : ∀ {xs : List D}, underDs k xs = true ↔ ∀ x ∈ xs, underD k x = true
  | [] => by simp [underDs]
  | x :: xs => by simp [underDs, underDs_iff (xs := xs)]
theorem underDs_perm {k : Nat} {xs ys : List D} (h : xs.Perm ys) (hx : underDs k xs = true) : underDs k ys = true := by
  rw [underDs_iff] at hx ⊢
  exact fun x hm => hx x (h.mem_iff.mpr hm)
theorem erase_perm : ∀ (l : List D) (i : Nat) {h : i < l.length}, ([l[i]] ++ l.eraseIdx i).Perm l
  | [], i, h => by simp at h
  | x :: l, 0, _ => by simp
  | x :: l, i + 1, h => by
    simp only [List.getElem_cons_succ, List.eraseIdx_cons_succ, List.singleton_append]
    exact (List.Perm.swap _ _ _).trans (.cons x (erase_perm l i (h := by simpa using h)))
theorem law_mix (p : Int × Int × Int) (xs : List D) (R : Store) (hx : xs.length ≤ 100000) (hR : (R.all (underO (R.length + 1))) = true) (hu : underDs (R.length + 1) xs = true) : ∃ ys p', ys.Perm xs ∧ callF P W (n + 2) 8 [.ptr 0, .lst xs] (pu p :: R) = .ok (.lst ys) (pu p' :: R) := by
  rw [callF_eq (k := f8) rfl rfl]
  have key := forL_inv (l := List.range xs.length) (g := fun (i : Nat) => D.int (i : Int)) (f := foT P W (callF P W (n + 1)) (.n 4) b8_1) (fun i ρ M => ∃ p l m a, ρ = [some (.ptr 0), some (.lst xs), some (.ptr (R.length + 1)), some (.ptr (R.length + 1 + 1)), a] ∧ M = pu p :: (R ++ [.lst l, .lst m]) ∧ (m ++ l).Perm xs ∧ l.length + i = xs.length) (ρ := [some (.ptr 0), some (.lst xs), some (.ptr (R.length + 1)), some (.ptr (R.length + 1 + 1)), none]) (M := pu p :: (R ++ [.lst xs, .lst []])) ⟨p, xs, [], none, rfl, rfl, by simp, by simp⟩ ?_
  · simp [f8, b8, rngI_nat (show xs.length ≤ 16777216 by omega), big, PySem.sizeLine]
    obtain ⟨ρ', M', e, p', l, m, a, rfl, rfl, hp, hl⟩ := key
    simp only [e, zthen_nx]
    have hl0 : l = [] := by simpa using hl
    subst hl0
    refine ⟨m, by simpa using hp, p'.1, p'.2.1, p'.2.2, ?_⟩
    simp [st1, se1]
    refine finish_rt_cut2 (N := pu p' :: R) (R := [.lst [], .dead]) (by simp) (by simp) ?_ ?_
    · simp only [underD, List.length_cons]
      exact underDs_perm (by simpa using hp.symm) hu
    · rw [List.all_cons]
      simp only [List.length_cons, hR, Bool.and_true]
      simp [underO, underDs, underD]
  · rintro i a ρ M hi ⟨p, l, m, a, rfl, rfl, hp, hl⟩
    have hi := (range_get hi).1
    obtain ⟨v, p1, h0, h1, e⟩ := draw (W := W) (n := n) p l.length (by omega) (by omega) (R ++ [.lst l, .lst m])
    have hv : l[v.toNat]? = some (l[v.toNat]'(by omega)) := by simp
    have hm : m.length < big := by
      have := hp.length_eq
      simp only [List.length_append] at this
      simp only [big, PySem.sizeLine]; omega
    refine ⟨_, _, by simp [foT_app, b8_1, st0, st1, e, popI_ok h0 (by omega) hv, hm]; exact ⟨rfl, rfl⟩, ?_⟩
    refine ⟨p1, l.eraseIdx v.toNat, m ++ [l[v.toNat]'(by omega)], _, rfl, by simp, ?_, ?_⟩
    · refine List.Perm.trans ?_ hp
      rw [List.append_assoc]
      refine List.Perm.append_left m ?_
      exact erase_perm _ _
    · rw [List.length_eraseIdx]; split <;> omega
end K27

/-! B27 -/
set_option maxRecDepth 100000
set_option maxHeartbeats 4000000
namespace K27
open G
variable {W : Nat}
variable {n : Nat} {M : Store}
/-- a job: set-up, sections, due -/
structure J where
  s : Int
  x : List Int
  d : Int
/-- with a list, with a tuple of sections -/
def J.l (j : J) : D := .tup [.int j.s, .lst (il j.x), .int j.d]
def J.t (j : J) : D := .tup [.int j.s, .tup (il j.x), .int j.d]
def mx (l : List Int) : Int := l.max?.getD 0
theorem mx_some {l : List Int} (h : l ≠ []) : l.max? = some (mx l) := by
  unfold mx
  cases l with
  | nil => exact absurd rfl h
  | cons a r => rfl
def hgS (due : Int) (b : Int × Int) (j : J) : Int × Int := if j.d ≤ due then (b.1 + j.s + j.x.sum, if j.s + mx j.x > b.2 then j.s + mx j.x else b.2) else b
def hg (rows : List J) (due : Int) : Int × Int := rows.foldl (hgS due) (0, 0)
/-- the hours that the jobs due by then can need -/
def need (rows : List J) (stops : List Int) (due : Int) : Int := (hg rows due).1 + stops.sum - stops.length + stops.length * (hg rows due).2
theorem mul_len {α : Type} {l : List α} {j : Int} (h : l.length ≤ 100000) : binop .mul (.int l.length) (.int j) M = .ok (.int (l.length * j)) M := mul_ii (.inl ⟨by omega, by omega⟩)
theorem law_need (rows : List J) (stops : List Int) (due : Int) (hx : ∀ j ∈ rows, j.x ≠ []) (hs : stops.length ≤ 100000) : callF P W (n + 1) 9 [.lst (rows.map J.l), .lst (il stops), .int due] M = .ok (.int (need rows stops due)) M := by
  rw [callF_eq (k := f9) rfl rfl]
  have key := forL_rel (l := rows) (g := J.l) (f := foT P W (callF P W n) (.t [5, 6, 7]) b9_1) (fun s ρ M' => M' = M ∧ ∃ a b c, ρ = [some (.lst (rows.map J.l)), some (.lst (il stops)), some (.int due), some (.int s.1), some (.int s.2), a, b, c]) (hgS due) (s := (0, 0)) (ρ := [some (.lst (rows.map J.l)), some (.lst (il stops)), some (.int due), some (.int 0), some (.int 0), none, none, none]) (M := M) ⟨rfl, _, _, _, rfl⟩ ?_
  · obtain ⟨ρ', M', e, rfl, a, b, c, rfl⟩ := key
    simp [f9, b9, e, mul_len hs, need, hg]
  · rintro j hj ⟨h, g⟩ ρ M' ⟨rfl, a, b, c, rfl⟩
    have hjx := mx_some (hx j hj)
    by_cases hd : j.d ≤ due
    · exact ⟨_, _, by simp [foT_app, b9_1, J.l, bindG_t, hd, maxOf, hjx]; rfl, rfl, _, _, _, by simp [hgS, hd]; exact ⟨rfl, rfl, rfl⟩⟩
    · exact ⟨_, _, by simp [foT_app, b9_1, J.l, bindG_t, hd, maxOf, hjx]; rfl, rfl, _, _, _, by simp [hgS, hd]; exact ⟨rfl, rfl, rfl⟩⟩
/-- the word of a bench -/
def wordE (rows : List J) (stops : List Int) (due : Int) : Option D := if due < need rows stops due then some (.tup [.str "late", .int due, .int (need rows stops due)]) else none
def word (rows : List J) (stops : List Int) : D := ((sortI (rows.map J.d)).findSome? (wordE rows stops)).getD (.tup [.str "kept"])
theorem intsOf_of {α : Type} {f : α → Int} {l : List α} : intsOf (l.map fun a => D.int (f a)) = some (l.map f) := by
  have : (l.map fun a => D.int (f a)) = (l.map f).map D.int := by simp
  rw [this, intsOf_map]
theorem law_word (rows : List J) (stops : List Int) (hx : ∀ j ∈ rows, j.x ≠ []) (hr : rows.length ≤ 100000) (hs : stops.length ≤ 100000) : callF P W (n + 2) 10 [.lst (rows.map J.l), .lst (il stops)] M = .ok (word rows stops) M := by
  rw [callF_eq (k := f10) rfl rfl]
  have key := forL_ret (l := sortI (rows.map J.d)) (g := D.int) (f := foT P W (callF P W (n + 1)) (.n 2) b10_1) (fun ρ M' => M' = M ∧ ∃ a b, ρ = [some (.lst (rows.map J.l)), some (.lst (il stops)), a, b]) (wordE rows stops) (ρ := [some (.lst (rows.map J.l)), some (.lst (il stops)), none, none]) (M := M) ⟨rfl, _, _, rfl⟩ (fun _ _ h => h.1) ?_
  · have hc := lcA_map (l := rows) (acc := []) (f := lcT P W (callF P W (n + 1)) [some (.lst (rows.map J.l)), some (.lst (il stops)), none, none] (.n 3) .nil (.ix (.v 3) (.int 2))) (g := J.l) (k := fun j => D.int j.d) (M := M) (fun j _ => by simp [lcT_app, J.l, at2, gslots, wipeR]) (by simp [big, PySem.sizeLine]; omega)
    simp [f10, b10, hc, intsOf_of]
    unfold word
    cases hb : (sortI (rows.map J.d)).findSome? (wordE rows stops) with
    | none =>
      rw [hb] at key
      obtain ⟨ρ', e, _, a, b, rfl⟩ := key
      simp [e, big, PySem.sizeLine]
    | some d =>
      rw [hb] at key
      simp [key]
  · rintro due hd ρ ⟨_, a, b, rfl⟩
    by_cases h : due < need rows stops due
    · simp [foT_app, b10_1, law_need rows stops due hx hs, h, wordE, big, PySem.sizeLine]
    · simp [foT_app, b10_1, law_need rows stops due hx hs, h, wordE, big, PySem.sizeLine]
end K27

/-! C27 -/
set_option maxRecDepth 100000
set_option maxHeartbeats 4000000
namespace K27
open G
variable {W : Nat}
variable {n : Nat} {M : Store}
abbrev Er := Er1
def many (x : PySem.Str) (c : Prop) [Decidable c] : Option Er := if c then some (0, [.str x]) else none
def secE (j : J) : Option Er := many "sections" (8 < (j.x.length : Int))
def numE (v : Int) : Option Er := many "length" (1000000 < v)
def lenE (j : J) : Option Er := (j.s :: j.d :: j.x).findSome? numE
def mn (l : List Int) : Int := l.min?.getD 0
theorem mn_some {l : List Int} (h : l ≠ []) : l.min? = some (mn l) := by
  unfold mn
  cases l with
  | nil => exact absurd rfl h
  | cons a r => rfl
def jobBad (j : J) : Bool := decide (j.s < 0) || decide (j.d < 1) || decide (j.x = []) || decide (mn j.x < 1)
def jobE (rows : List J) (i : Nat) : Option Er := match rows[i]? with
  | some j => if jobBad j = true then some (1, [.int i, .str "job"]) else none
  | none => none
def jobsE (rows : List J) : Option Er := (List.range rows.length).findSome? (jobE rows)
def benchE (rows : List J) (stops : List Int) : Option Er :=
  (many "jobs" (12 < (rows.length : Int))).or <| (rows.findSome? secE).or <| (rows.findSome? lenE).or <| (stops.findSome? numE).or <| (many "stops" (8 < (stops.length : Int))).or <| (jobsE rows).or (lowE stops)
theorem check_many (c : Int) (m : Int) (x : PySem.Str) : callF P W (n + 2) 1 [.int c, .int m, .str x] M = resE (many x (m < c)) M := by
  rw [check_most]; unfold many
  by_cases h : m < c <;> simp [h]
theorem check_num (v : Int) : callF P W (n + 2) 1 [.int v, .int 1000000, .str "length"] M = resE (numE v) M := check_many v 1000000 "length"
theorem okd_il {k : Nat} {l : List Int} : (il l).all (okd k) = true := by
  simp [il, okd]
theorem okd_itup {k : Nat} {l : List Int} : okd (k + 1) (.tup (il l)) = true := by rw [okd]; exact okd_il
theorem eqd_il_nil {l : List Int} : eqd (.tup (il l)) (.tup []) = decide (l = []) := by
  cases l <;> simp [eqd, eqds]
theorem jt_x {j : J} : L2.atI [D.int j.s, .tup (il j.x), .int j.d] 1 = some (.tup (il j.x)) := rfl
def R3 (rows : List J) (stops : List Int) (ρ : Rho) : Prop := ∃ a b c d e f, ρ = [some (.lst (rows.map J.t)), some (.lst (il stops)), a, b, c, d, e, f]
theorem check_bench (rows : List J) (stops : List Int) (hr : rows.length ≤ 100000) (hs : stops.length ≤ 100000) (hx : ∀ j ∈ rows, j.x.length ≤ 100000) : callF P W (n + 3) 3 [.lst (rows.map J.t), .lst (il stops)] M = resE (benchE rows stops) M := by
  rw [callF_eq (k := f3) rfl rfl]
  refine Rai.fin (R := R3 rows stops) ?_
  simp only [f3, b3, rSs_cons]
  refine Rai.then (R := R3 rows stops) ?_ fun ρ h => Rai.then (R := R3 rows stops) ?_ fun ρ h => Rai.then (R := R3 rows stops) ?_ fun ρ h => Rai.then (R := R3 rows stops) ?_ fun ρ h => Rai.then (R := R3 rows stops) ?_ fun ρ h => Rai.then (R := R3 rows stops) ?_ fun ρ h => Rai.last ?_
  · have e := check_many (W := W) (n := n) (M := M) rows.length 12 "jobs"
    simp
    refine Rai.ex e ⟨_, _, _, _, _, _, rfl⟩
  · obtain ⟨a, b, c, d, e, f, rfl⟩ := h
    simp
    refine Rai.loop ⟨_, _, _, _, _, _, rfl⟩ ?_
    rintro j hj ρ ⟨a, b, c, d, e, f, rfl⟩
    have e := check_many (W := W) (n := n) (M := M) j.x.length 8 "sections"
    simp [foT_app, b3_5, J.t, jt_x]
    exact Rai.last (Rai.ex e ⟨_, _, _, _, _, _, rfl⟩)
  · obtain ⟨a, b, c, d, e, f, rfl⟩ := h
    simp
    refine Rai.loop ⟨_, _, _, _, _, _, rfl⟩ ?_
    rintro j hj ρ ⟨a, b, c, d, e, f, rfl⟩
    have ea : binop .add (.lst [.int j.s, .int j.d]) (.lst (il j.x)) M = .ok (.lst (il (j.s :: j.d :: j.x))) M := add_ll (by have := hx j hj; simp [big, PySem.sizeLine]; omega)
    simp only [foT_app, b3_4, rSs_cons, rSs_nil, bindG_n, oO_some]
    refine Rai.last ?_
    simp [J.t, at0, at1, at2, big, PySem.sizeLine]
    simp only [ea, zbind_ok, walk_lst, onO_some, zwith_ok, foW_items]
    refine Rai.loop ⟨_, _, _, _, _, _, rfl⟩ ?_
    rintro v hv ρ ⟨a, b, c, d, e, f, rfl⟩
    simp [foT_app, b3_3]
    exact Rai.last (Rai.ex (check_num v) ⟨_, _, _, _, _, _, rfl⟩)
  · obtain ⟨a, b, c, d, e, f, rfl⟩ := h
    simp
    refine Rai.loop ⟨_, _, _, _, _, _, rfl⟩ ?_
    rintro v hv ρ ⟨a, b, c, d, e, f, rfl⟩
    simp [foT_app, b3_2]
    exact Rai.last (Rai.ex (check_num v) ⟨_, _, _, _, _, _, rfl⟩)
  · obtain ⟨a, b, c, d, e, f, rfl⟩ := h
    have e := check_many (W := W) (n := n) (M := M) stops.length 8 "stops"
    simp
    exact Rai.ex e ⟨_, _, _, _, _, _, rfl⟩
  · obtain ⟨a, b, c, d, e, f, rfl⟩ := h
    simp [rngI_nat (show rows.length ≤ 16777216 by omega)]
    refine Rai.loop ⟨_, _, _, _, _, _, rfl⟩ ?_
    rintro i hi ρ ⟨a, b, c, d, e, f, rfl⟩
    have hi := range_mem hi
    have hj : rows[i]? = some rows[i] := by simp [hi]
    have hg : L2.atI (rows.map J.t) (i : Int) = some (.tup [.int rows[i].s, .tup (il rows[i].x), .int rows[i].d]) := atI_nat (by simp [hj, J.t])
    generalize rows[i] = j at hj hg
    have hq : cmpop .eq (.tup (il j.x)) (.tup []) M = .ok (.bl (decide (j.x = []))) M := by
      rw [eq_dd okd_itup rfl]
      exact congrArg (fun b => Res.ok (D.bl b) M) eqd_il_nil
    simp only [foT_app, b3_1, rSs_cons, rSs_nil, bindG_n, oO_some, jobE, hj]
    unfold jobBad
    by_cases h1 : j.s < 0
    · simp [hg, bindG_t, h1, er1]; exact ⟨_, rfl⟩
    by_cases h2 : j.d < 1
    · simp [hg, bindG_t, h1, h2, er1]; exact ⟨_, rfl⟩
    by_cases h3 : j.x = []
    · simp [hg, bindG_t, h1, h2, hq, h3, er1]; exact ⟨_, rfl⟩
    have hm := mn_some h3
    by_cases h4 : mn j.x < 1
    · simp [hg, bindG_t, h1, h2, hq, h3, minOf, hm, h4, er1]; exact ⟨_, rfl⟩
    · simp [hg, bindG_t, h1, h2, hq, h3, minOf, hm, h4, er1]; exact ⟨_, rfl, _, _, _, _, _, _, rfl⟩
  · obtain ⟨a, b, c, d, e, f, rfl⟩ := h
    have e := check_stops (W := W) (n := n + 1) (M := M) stops hs
    simp
    exact Rai.ex e ⟨_, _, _, _, _, _, rfl⟩
end K27

/-! E27 -/
set_option maxRecDepth 100000
set_option maxHeartbeats 4000000
namespace K27
open G
variable {W : Nat}
variable {n : Nat} {M : Store}
/-- a row of a job, its sections in any list -/
def JobD (M : Store) (p : D × J) : Prop := ∃ X, p.1 = .tup [.int p.2.s, X, .int p.2.d] ∧ seqOf M X = some (il p.2.x)
def JobsD (M : Store) (jobs : D) (rows : List J) : Prop := ∃ (w : Wk) (l : List (D × J)), walkOf M jobs = some w ∧ Walks M w (l.map Prod.fst) ∧ (∀ p ∈ l, JobD M p) ∧ l.map Prod.snd = rows
theorem JobsD.lst {rows : List J} : JobsD M (.lst (rows.map J.l)) rows := by
  refine ⟨_, rows.map fun j => (j.l, j), rfl, .inl (by simp [Function.comp_def]), ?_, by simp [Function.comp_def]⟩
  intro p hp
  obtain ⟨j, _, rfl⟩ := List.mem_map.mp hp
  exact ⟨_, rfl, rfl⟩
/-- a bench in the store -/
def benchO (rows : List J) (stops : List Int) : Ob := .ins 0 [(6, .lst (rows.map J.t)), (5, .lst (il stops))]
theorem cls0 : P.cls[0]? = some ⟨"Bench", 23, [6, 5], [(3, 24), (2, 25), (7, 26), (4, 27)]⟩ := rfl
theorem hasF6 : hasF P 0 6 = true := rfl
theorem hasF5 : hasF P 0 5 = true := rfl
theorem init {jobs st : D} {rows : List J} {stops : List Int} {N : Store} (hj : JobsD (N ++ [.ins 0 []]) jobs rows) (hs : seqOf (N ++ [.ins 0 []]) st = some (il stops)) (hr : rows.length ≤ 100000) (hl : stops.length ≤ 100000) (hx : ∀ j ∈ rows, j.x.length ≤ 100000) (hW : 100000 < W) :
    callF P W (n + 4) 23 [.ptr N.length, jobs, st] (N ++ [.ins 0 []]) = match benchE rows stops with | some e => .err e.1 e.2 (N ++ [.ins 0 []]) | none => .ok .non (N ++ [benchO rows stops]) := by
  rw [callF_eq (k := f23) rfl rfl]
  obtain ⟨w, l, h1, h2, h3, rfl⟩ := hj
  have hc := lcW_map (f := lcT P W (callF P W (n + 3)) [some (.ptr N.length), some jobs, some st, none, none, none] (.n 5) .nil (.tup (.cons (.ix (.v 5) (.int 0)) (.cons (.bi .tuple (.cons (.ix (.v 5) (.int 1)) .nil)) (.cons (.ix (.v 5) (.int 2)) .nil))))) (k := fun p : D × J => p.2.t) (W := W) h2 (fun p hp => by
    obtain ⟨X, e1, e2⟩ := h3 p hp
    simp [lcT_app, e1, at0, at1, at2, gslots, wipeR, e2, big, PySem.sizeLine, J.t]) (by simp [big, PySem.sizeLine]; simp at hr; omega) (by simp at hr; omega)
  have hb := check_bench (W := W) (n := n) (M := N ++ [.ins 0 []]) (l.map Prod.snd) stops hr hl hx
  have e2 : (l.map fun p : D × J => p.2.t) = (l.map Prod.snd).map J.t := by simp [Function.comp_def]
  rw [e2] at hc
  simp [f23, b23, h1]
  simp only [hc, zbind_ok]
  simp [hs]
  simp at hb
  simp only [hb]
  cases benchE (l.map Prod.snd) stops with
  | some e => simp
  | none => simp [st0, se0, hasF6, hasF5, finish_nx_same, benchO, setF]
theorem JobsD.app {jobs : D} {rows : List J} {N : Store} (h : JobsD M jobs rows) : JobsD (M ++ N) jobs rows := by
  obtain ⟨w, l, h1, h2, h3, h4⟩ := h
  have key : ∀ {i : Nat} {xs : List D}, M[i]? = some (.lst xs) → (M ++ N)[i]? = some (.lst xs) := fun {i xs} e => by
    rw [List.getElem?_append_left (List.getElem?_eq_some_iff.mp e).1, e]
  refine ⟨w, l, ?_, ?_, fun p hp => ?_, h4⟩
  · cases jobs with
    | ptr i =>
      simp only [walkOf] at h1 ⊢
      cases e : M[i]? with
      | none => rw [e] at h1; cases h1
      | some o =>
        cases o with
        | lst xs => rw [key e]; rw [e] at h1; exact h1
        | _ => rw [e] at h1; cases h1
    | _ => exact h1
  · rcases h2 with e | ⟨i, e1, e2⟩
    · exact .inl e
    · exact .inr ⟨i, e1, key e2⟩
  · obtain ⟨X, e1, e2⟩ := h3 p hp
    refine ⟨X, e1, ?_⟩
    cases X with
    | ptr i =>
      simp only [seqOf_ptr] at e2 ⊢
      cases e : M[i]? with
      | none => rw [e] at e2; cases e2
      | some o =>
        cases o with
        | lst xs => rw [key e]; rw [e] at e2; exact e2
        | _ => rw [e] at e2; cases e2
    | _ => exact e2
theorem seqOf_app {x : D} {xs : List D} {N : Store} (h : seqOf M x = some xs) : seqOf (M ++ N) x = some xs := by
  cases x with
  | ptr i =>
    simp only [seqOf_ptr] at h ⊢
    cases e : M[i]? with
    | none => rw [e] at h; cases h
    | some o =>
      cases o with
      | lst ys => rw [List.getElem?_append_left (List.getElem?_eq_some_iff.mp e).1, e]; rw [e] at h; exact h
      | _ => rw [e] at h; cases h
  | _ => exact h
def madeD (e : Er) : D := if e.1 = 0 then .tup [.str "many", e.2.getD 0 .non] else .tup [.str "bad", e.2.getD 1 .non, e.2.getD 0 .non]
/-- an error of a form -/
def ErOk (e : Er) : Prop := (∃ x, e = (0, [.str x])) ∨ ∃ (i : Int) (x : PySem.Str), e = (1, [.int i, .str x])
theorem many_ok {x : PySem.Str} {c : Prop} [Decidable c] {e : Er} (h : many x c = some e) : ErOk e := by
  unfold many at h
  split at h
  · cases h; exact .inl ⟨_, rfl⟩
  · cases h
theorem find_ok {α : Type} {l : List α} {f : α → Option Er} {e : Er} (h : l.findSome? f = some e) (hf : ∀ a e, f a = some e → ErOk e) : ErOk e := by
  obtain ⟨a, _, h⟩ := List.exists_of_findSome?_eq_some h
  exact hf a e h
theorem benchE_ok {rows : List J} {stops : List Int} {e : Er} (h : benchE rows stops = some e) : ErOk e := by
  unfold benchE at h
  simp only [Option.or_eq_some_iff] at h
  rcases h with h | ⟨_, h | ⟨_, h | ⟨_, h | ⟨_, h | ⟨_, h | ⟨_, h⟩⟩⟩⟩⟩⟩
  · exact many_ok h
  · exact find_ok h fun a e h => many_ok h
  · exact find_ok h fun a e h => find_ok h fun a e h => many_ok h
  · exact find_ok h fun a e h => many_ok h
  · exact many_ok h
  · refine find_ok h fun i e h => ?_
    unfold jobE at h
    split at h
    · split at h
      · cases h; exact .inr ⟨_, _, rfl⟩
      · cases h
    · cases h
  · refine find_ok h fun i e h => ?_
    unfold lowE1 at h
    split at h
    · cases h; exact .inr ⟨_, _, rfl⟩
    · cases h
theorem made {jobs st : D} {rows : List J} {stops : List Int} (hj : JobsD M jobs rows) (hs : seqOf M st = some (il stops)) (hr : rows.length ≤ 100000) (hl : stops.length ≤ 100000) (hx : ∀ j ∈ rows, j.x.length ≤ 100000) (hW : 100000 < W) :
    callF P W (n + 5) 13 [jobs, st] M = match benchE rows stops with | some e => .ok (madeD e) M | none => .ok (.tup [.str "bench", .ptr M.length]) (M ++ [benchO rows stops]) := by
  rw [callF_eq (k := f13) rfl rfl]
  have hi := init (W := W) (n := n) (hj.app (N := [.ins 0 []])) (seqOf_app (N := [.ins 0 []]) hs) hr hl hx hW
  simp only [f13, b13, rSs_cons, rS_try]
  simp [cls0]
  simp only [hi]
  cases hb : benchE rows stops with
  | some e =>
    rcases benchE_ok hb with ⟨x, rfl⟩ | ⟨i, x, rfl⟩
    · simp [handle, er0, runH, runH.runHs, getF, madeD, big, PySem.sizeLine]
      exact finish_rt_cut rfl rfl
    · simp [handle, er1, runH, runH.runHs, getF, madeD, big, PySem.sizeLine]
      exact finish_rt_cut rfl rfl
  | none =>
    simp [big, PySem.sizeLine]
    exact finish_rt_keep (by simp [underD, underDs])
end K27

/-! F27 -/
set_option maxRecDepth 100000
set_option maxHeartbeats 4000000
namespace K27
open G
variable {W : Nat}
variable {n : Nat} {M : Store}
theorem jobs_m {b : Nat} {rows : List J} {stops : List Int} (hb : M[b]? = some (benchO rows stops)) : callF P W (n + 1) 24 [.ptr b] M = .ok (.ptr M.length) (M ++ [.lst (rows.map J.t)]) := by
  rw [callF_eq (k := f24) rfl rfl]
  simp [f24, b24, hb, benchO, hasF6, getF]
  exact finish_rt_keep (by simp [underD])
theorem stops_m {b : Nat} {rows : List J} {stops : List Int} (hb : M[b]? = some (benchO rows stops)) : callF P W (n + 1) 25 [.ptr b] M = .ok (.ptr M.length) (M ++ [.lst (il stops)]) := by
  rw [callF_eq (k := f25) rfl rfl]
  simp [f25, b25, hb, benchO, hasF5, getF]
  exact finish_rt_keep (by simp [underD])
/-- a job that is right -/
def J.ok (j : J) : Prop := 0 ≤ j.s ∧ j.x ≠ [] ∧ (∀ v ∈ j.x, 1 ≤ v) ∧ 1 ≤ j.d
theorem mx_pos {l : List Int} (h : l ≠ []) (h1 : ∀ v ∈ l, 1 ≤ v) : 1 ≤ mx l := h1 _ (List.max?_mem (mx_some h))
abbrev duel (rows : List J) (due : Int) : List J := rows.filter fun j => decide (j.d ≤ due)
theorem hg_eq (due : Int) : ∀ (rows : List J) (h g : Int), rows.foldl (hgS due) (h, g) = (h + ((duel rows due).map fun j => j.s + j.x.sum).sum, ((duel rows due).map fun j => j.s + mx j.x).foldl max g)
  | [], h, g => by simp
  | j :: r, h, g => by
    rw [List.foldl_cons]
    by_cases hd : j.d ≤ due
    · have e : hgS due (h, g) j = (h + j.s + j.x.sum, max g (j.s + mx j.x)) := by
        simp only [hgS, hd, if_true]
        congr 1
        split <;> omega
      rw [e, hg_eq due r]
      simp [duel, hd]
      omega
    · have e : hgS due (h, g) j = (h, g) := by simp [hgS, hd]
      rw [e, hg_eq due r]
      simp [duel, hd]
theorem sum_less : ∀ (l : List Int), (l.map fun v => v - 1).sum = l.sum - l.length
  | [] => rfl
  | a :: r => by simp [sum_less r]; omega
theorem hg_max {rows : List J} {due : Int} (hx : ∀ j ∈ rows, j.ok) (hd : duel rows due ≠ []) : ((duel rows due).map fun j => j.s + mx j.x).max? = some (hg rows due).2 := by
  unfold hg
  rw [hg_eq]
  have hpos : ∀ v ∈ (duel rows due).map (fun j => j.s + mx j.x), 0 ≤ v := by
    intro v hv
    obtain ⟨j, hj, rfl⟩ := List.mem_map.mp hv
    have ho := hx j (List.mem_filter.mp hj).1
    have := mx_pos ho.2.1 ho.2.2.1
    have := ho.1
    show 0 ≤ j.s + mx j.x
    omega
  cases e : (duel rows due).map (fun j => j.s + mx j.x) with
  | nil => simp at e; exact absurd e (by simpa [duel] using hd)
  | cons a r =>
    rw [e] at hpos
    have : 0 ≤ a := hpos a List.mem_cons_self
    rw [List.max?_cons', List.foldl_cons]
    congr 2
    omega
theorem needed {b : Nat} {rows : List J} {stops : List Int} (hb : M[b]? = some (benchO rows stops)) (due : Int) (hx : ∀ j ∈ rows, j.ok) (hd : duel rows due ≠ []) (hr : rows.length ≤ 100000) (hs : stops.length ≤ 100000) : callF P W (n + 1) 26 [.ptr b, .int due] M = .ok (.int (need rows stops due)) M := by
  rw [callF_eq (k := f26) rfl rfl]
  have hrl : (duel rows due).length ≤ rows.length := List.length_filter_le _ _
  have c1 := lcA_filter (l := rows) (acc := []) (f := lcT P W (callF P W n) [some (.ptr b), some (.int due), none, none, none, none, none] (.n 5) (.cons (.cmp .le (.ix (.v 5) (.int 2)) (.v 1)) .nil) (.v 5)) (g := J.t) (k := J.t) (p := fun j => decide (j.d ≤ due)) (M := M) (fun j _ => by
    by_cases h : j.d ≤ due <;> simp [lcT_app, J.t, at2, gslots, wipeR, h]) (by simp [big, PySem.sizeLine]; omega)
  have c2 := lcA_map (l := duel rows due) (acc := []) (f := lcT P W (callF P W n) [some (.ptr b), some (.int due), some (.lst ((duel rows due).map J.t)), none, none, none, none] (.n 5) .nil (.bin .add (.ix (.v 5) (.int 0)) (.bi .sum (.cons (.ix (.v 5) (.int 1)) .nil)))) (g := J.t) (k := fun j => .int (j.s + j.x.sum)) (M := M) (fun j _ => by
    simp [lcT_app, J.t, at0, at1, gslots, wipeR]) (by simp [big, PySem.sizeLine]; omega)
  have c3 := lcA_map (l := duel rows due) (acc := []) (f := lcT P W (callF P W n) [some (.ptr b), some (.int due), some (.lst ((duel rows due).map J.t)), some (.int ((duel rows due).map fun j => j.s + j.x.sum).sum), none, none, none] (.n 5) .nil (.bin .add (.ix (.v 5) (.int 0)) (.bi .max1 (.cons (.ix (.v 5) (.int 1)) .nil)))) (g := J.t) (k := fun j => .int (j.s + mx j.x)) (M := M) (fun j hj => by
    have := mx_some (hx j (List.mem_filter.mp hj).1).2.1
    simp [lcT_app, J.t, at0, at1, gslots, wipeR, maxOf, this]) (by simp [big, PySem.sizeLine]; omega)
  have c4 := lcA_map (l := stops) (acc := []) (f := lcT P W (callF P W n) [some (.ptr b), some (.int due), some (.lst ((duel rows due).map J.t)), some (.int ((duel rows due).map fun j => j.s + j.x.sum).sum), some (.int (hg rows due).2), none, none] (.n 6) .nil (.bin .sub (.v 6) (.int 1))) (g := D.int) (k := fun v => .int (v - 1)) (M := M) (fun v hv => by
    simp [lcT_app, gslots, wipeR]) (by simp [big, PySem.sizeLine]; omega)
  simp only [List.nil_append] at c1 c2 c3 c4
  have hm := hg_max hx hd
  simp only [f26, b26, rSs_cons, rSs_nil]
  simp [hb, benchO, hasF6, hasF5, getF]
  simp only [c1, zbind_ok]
  simp
  simp only [c2, zbind_ok]
  simp [intsOf_of]
  simp only [c3, zbind_ok]
  simp [intsOf_of, maxOf, hm]
  simp only [hb, benchO]
  simp [hasF5, getF]
  simp only [c4, zbind_ok]
  simp [intsOf_of, sum_less, hb, benchO, hasF5, getF, mul_len hs]
  unfold need hg
  rw [hg_eq]
  simp
  omega
theorem sortI_mem {l : List Int} {v : Int} : v ∈ sortI l ↔ v ∈ l := (List.mergeSort_perm l _).mem_iff
theorem keeps_all {b : Nat} {rows : List J} {stops : List Int} (hb : M[b]? = some (benchO rows stops)) (hx : ∀ j ∈ rows, j.ok) (hr : rows.length ≤ 100000) (hs : stops.length ≤ 100000) : callF P W (n + 2) 27 [.ptr b] M = .ok (word rows stops) M := by
  rw [callF_eq (k := f27) rfl rfl]
  have key := forL_ret (l := sortI (rows.map J.d)) (g := D.int) (f := foT P W (callF P W (n + 1)) (.n 1) b27_1) (fun ρ M' => M' = M ∧ ∃ a c, ρ = [some (.ptr b), a, c]) (wordE rows stops) (ρ := [some (.ptr b), none, none]) (M := M) ⟨rfl, _, _, rfl⟩ (fun _ _ h => h.1) ?_
  · have hc := lcA_map (l := rows) (acc := []) (f := lcT P W (callF P W (n + 1)) [some (.ptr b), none, none] (.n 2) .nil (.ix (.v 2) (.int 2))) (g := J.t) (k := fun j => D.int j.d) (M := M) (fun j _ => by simp [lcT_app, J.t, at2, gslots, wipeR]) (by simp [big, PySem.sizeLine]; omega)
    simp only [List.nil_append] at hc
    simp [f27, b27, hb, benchO, hasF6, getF]
    simp only [hc, zbind_ok]
    simp [intsOf_of]
    unfold word
    cases hf : (sortI (rows.map J.d)).findSome? (wordE rows stops) with
    | none =>
      rw [hf] at key
      obtain ⟨ρ', e, _, a, c, rfl⟩ := key
      simp [e, big, PySem.sizeLine]
    | some d =>
      rw [hf] at key
      simp [key]
  · rintro due hd ρ ⟨_, a, c, rfl⟩
    have hdn : duel rows due ≠ [] := by
      obtain ⟨j, hj, e⟩ := List.mem_map.mp (sortI_mem.mp hd)
      have : j ∈ duel rows due := List.mem_filter.mpr ⟨hj, by simp [e]⟩
      intro h; rw [h] at this; cases this
    have hn := needed (W := W) (n := n) hb due hx hdn hr hs
    have hf7 : findM 7 [(3, 24), (2, 25), (7, 26), (4, 27)] = some 26 := rfl
    by_cases h : due < need rows stops due
    · simp [foT_app, b27_1, hb, benchO, cls0, hf7, getF]
      simp only [hn, zbind_ok]
      simp [h, hb, benchO, cls0, hf7, getF]
      simp only [hn, zbind_ok]
      simp [h, wordE, big, PySem.sizeLine]
    · simp [foT_app, b27_1, hb, benchO, cls0, hf7, getF]
      simp only [hn, zbind_ok]
      simp [h, wordE, big, PySem.sizeLine]
end K27

/-! Q27 -/
set_option maxRecDepth 100000
set_option maxHeartbeats 4000000
namespace K27
open G
variable {W : Nat}
variable {n : Nat} {M : Store}
/-- a released job: release, hours, due -/
structure Q where
  r : Int
  h : Int
  d : Int
def Q.l (q : Q) : D := .tup [.int q.r, .int q.h, .int q.d]
def Q.is (q : Q) : List Int := [q.r, q.h, q.d]
theorem Q.l_il {q : Q} : q.l = .tup (il q.is) := rfl
def relBad (q : Q) : Bool := decide (q.r < 0) || decide (q.h < 1) || decide (q.d < 1)
def qE (q : Q) : Option Er := q.is.findSome? numE
def relE (rows : List Q) (i : Nat) : Option Er := match rows[i]? with
  | some j => if relBad j = true then some (1, [.int i, .str "job"]) else none
  | none => none
def relsE (rows : List Q) : Option Er := (List.range rows.length).findSome? (relE rows)
def releasedE (rows : List Q) (stops : List Int) : Option Er :=
  (many "jobs" (12 < (rows.length : Int))).or <| (rows.findSome? qE).or <| (stops.findSome? numE).or <| (many "stops" (8 < (stops.length : Int))).or <| (relsE rows).or (lowE stops)
def R4 (rows : List Q) (stops : List Int) (ρ : Rho) : Prop := ∃ a b c d e f, ρ = [some (.lst (rows.map Q.l)), some (.lst (il stops)), a, b, c, d, e, f]
theorem check_released (rows : List Q) (stops : List Int) (hr : rows.length ≤ 100000) (hs : stops.length ≤ 100000) : callF P W (n + 3) 4 [.lst (rows.map Q.l), .lst (il stops)] M = resE (releasedE rows stops) M := by
  rw [callF_eq (k := f4) rfl rfl]
  refine Rai.fin (R := R4 rows stops) ?_
  simp only [f4, b4, rSs_cons]
  refine Rai.then (R := R4 rows stops) ?_ fun ρ h => Rai.then (R := R4 rows stops) ?_ fun ρ h => Rai.then (R := R4 rows stops) ?_ fun ρ h => Rai.then (R := R4 rows stops) ?_ fun ρ h => Rai.then (R := R4 rows stops) ?_ fun ρ h => Rai.last ?_
  · have e := check_many (W := W) (n := n) (M := M) rows.length 12 "jobs"
    simp
    refine Rai.ex e ⟨_, _, _, _, _, _, rfl⟩
  · obtain ⟨a, b, c, d, e, f, rfl⟩ := h
    simp
    refine Rai.loop ⟨_, _, _, _, _, _, rfl⟩ ?_
    rintro j hj ρ ⟨a, b, c, d, e, f, rfl⟩
    simp only [foT_app, b4_4, rSs_cons, rSs_nil, bindG_n, oO_some]
    refine Rai.last ?_
    simp [Q.l_il]
    refine Rai.loop ⟨_, _, _, _, _, _, rfl⟩ ?_
    rintro v hv ρ ⟨a, b, c, d, e, f, rfl⟩
    simp [foT_app, b4_3]
    exact Rai.last (Rai.ex (check_num v) ⟨_, _, _, _, _, _, rfl⟩)
  · obtain ⟨a, b, c, d, e, f, rfl⟩ := h
    simp
    refine Rai.loop ⟨_, _, _, _, _, _, rfl⟩ ?_
    rintro v hv ρ ⟨a, b, c, d, e, f, rfl⟩
    simp [foT_app, b4_2]
    exact Rai.last (Rai.ex (check_num v) ⟨_, _, _, _, _, _, rfl⟩)
  · obtain ⟨a, b, c, d, e, f, rfl⟩ := h
    have e := check_many (W := W) (n := n) (M := M) stops.length 8 "stops"
    simp
    exact Rai.ex e ⟨_, _, _, _, _, _, rfl⟩
  · obtain ⟨a, b, c, d, e, f, rfl⟩ := h
    simp [rngI_nat (show rows.length ≤ 16777216 by omega)]
    refine Rai.loop ⟨_, _, _, _, _, _, rfl⟩ ?_
    rintro i hi ρ ⟨a, b, c, d, e, f, rfl⟩
    have hi := range_mem hi
    have hj : rows[i]? = some rows[i] := by simp [hi]
    have hg : L2.atI (rows.map Q.l) (i : Int) = some (.tup [.int rows[i].r, .int rows[i].h, .int rows[i].d]) := atI_nat (by simp [hj, Q.l])
    generalize rows[i] = j at hj hg
    simp only [foT_app, b4_1, rSs_cons, rSs_nil, bindG_n, oO_some, relE, hj]
    unfold relBad
    by_cases h1 : j.r < 0
    · simp [hg, bindG_t, h1, er1]; exact ⟨_, rfl⟩
    by_cases h2 : j.h < 1
    · simp [hg, bindG_t, h1, h2, er1]; exact ⟨_, rfl⟩
    by_cases h4 : j.d < 1
    · simp [hg, bindG_t, h1, h2, h4, er1]; exact ⟨_, rfl⟩
    · simp [hg, bindG_t, h1, h2, h4, er1]; exact ⟨_, rfl, _, _, _, _, _, _, rfl⟩
  · obtain ⟨a, b, c, d, e, f, rfl⟩ := h
    have e := check_stops (W := W) (n := n + 1) (M := M) stops hs
    simp
    exact Rai.ex e ⟨_, _, _, _, _, _, rfl⟩
/-- the hours of the jobs that do not go outside -/
def insd (rows : List Q) (due rel : Int) : List Int := (rows.filter fun q => decide (rel ≤ q.r) && decide (q.d ≤ due)).map Q.h
def rlE (rows : List Q) (stops : List Int) (due rel : Int) : Option D :=
  if insd rows due rel ≠ [] ∧ due - rel < (insd rows due rel).sum + stops.sum then some (.tup [.str "late", .int rel, .int due, .int ((insd rows due rel).sum + stops.sum)]) else none
def rlsE (rows : List Q) (stops : List Int) (due : Int) : Option D := (sortI (rows.map Q.r)).findSome? (rlE rows stops due)
def rword (rows : List Q) (stops : List Int) : D := ((sortI (rows.map Q.d)).findSome? (rlsE rows stops)).getD (.tup [.str "kept"])
theorem insd_len {rows : List Q} {due rel : Int} : (insd rows due rel).length ≤ rows.length := by
  unfold insd; rw [List.length_map]; exact List.length_filter_le _ _
theorem eqd_il_nilL {l : List Int} : eqd (.lst (il l)) (.lst []) = decide (l = []) := by
  cases l <;> simp [eqd, eqds]
theorem okd_ilst {k : Nat} {l : List Int} : okd (k + 1) (.lst (il l)) = true := by rw [okd]; exact okd_il
theorem ne_il_nil {l : List Int} : cmpop .ne (.lst (il l)) (.lst []) M = .ok (.bl (decide (l ≠ []))) M := by
  rw [ne_dd okd_ilst rfl]
  have : eqd (top M (.lst (il l))) (top M (.lst [])) = decide (l = []) := eqd_il_nilL
  rw [this]; simp
theorem law_released (rows : List Q) (stops : List Int) (hr : rows.length ≤ 100000) (hs : stops.length ≤ 100000) : callF P W (n + 1) 18 [.lst (rows.map Q.l), .lst (il stops)] M = .ok (rword rows stops) M := by
  rw [callF_eq (k := f18) rfl rfl]
  have inner : ∀ due : Int, ∀ ρ : Rho, (∃ b c d, ρ = [some (.lst (rows.map Q.l)), some (.lst (il stops)), some (.int due), b, c, d]) → match (sortI (rows.map Q.r)).findSome? (rlE rows stops due) with | none => ∃ ρ', forL (foT P W (callF P W n) (.n 3) b18_1) ((sortI (rows.map Q.r)).map D.int) ρ M = some (.nx ρ', M) ∧ (M = M ∧ ∃ b c d, ρ' = [some (.lst (rows.map Q.l)), some (.lst (il stops)), some (.int due), b, c, d]) | some d => forL (foT P W (callF P W n) (.n 3) b18_1) ((sortI (rows.map Q.r)).map D.int) ρ M = some (.rt d, M) := by
    intro due ρ hρ
    refine forL_ret (fun ρ M' => M' = M ∧ ∃ b c d, ρ = [some (.lst (rows.map Q.l)), some (.lst (il stops)), some (.int due), b, c, d]) (rlE rows stops due) ⟨rfl, hρ⟩ (fun _ _ h => h.1) ?_
    rintro rel _ ρ ⟨_, b, c, d, rfl⟩
    have c1 := lcA_filter (l := rows) (acc := []) (f := lcT P W (callF P W n) [some (.lst (rows.map Q.l)), some (.lst (il stops)), some (.int due), some (.int rel), c, d] (.n 5) (.cons (.tand (.cons (.cmp .ge (.ix (.v 5) (.int 0)) (.v 3)) (.cons (.cmp .le (.ix (.v 5) (.int 2)) (.v 2)) .nil))) .nil) (.ix (.v 5) (.int 1))) (g := Q.l) (k := fun q => .int q.h) (p := fun q => decide (rel ≤ q.r) && decide (q.d ≤ due)) (M := M) (fun q _ => by
      by_cases h : rel ≤ q.r <;> by_cases h2 : q.d ≤ due <;> simp [lcT_app, Q.l, at0, at1, at2, gslots, wipeR, h, h2]) (by simp [big, PySem.sizeLine]; omega)
    have c2 : ((rows.filter fun q => decide (rel ≤ q.r) && decide (q.d ≤ due)).map fun q => D.int q.h) = il (insd rows due rel) := by simp [insd, il]
    rw [c2, List.nil_append] at c1
    have hn := ne_il_nil (l := insd rows due rel) (M := M)
    by_cases h : insd rows due rel = []
    · simp [foT_app, b18_1]
      simp only [c1, zbind_ok]
      simp only [rlE, h]
      simp
      simp only [ne_il_nil (l := []) (M := M), zbind_ok, il, List.map_nil]
      have hn0 : cmpop .ne (.lst []) (.lst []) M = .ok (.bl false) M := ne_il_nil (l := [])
      simp [hn0]
    · by_cases h2 : due - rel < (insd rows due rel).sum + stops.sum
      · simp [foT_app, b18_1]
        simp only [c1, zbind_ok]
        simp [rlE, h, h2]
        simp only [hn, zbind_ok]
        simp [h, h2, big, PySem.sizeLine]
      · simp [foT_app, b18_1]
        simp only [c1, zbind_ok]
        simp [rlE, h, h2]
        simp only [hn, zbind_ok]
        simp [h, h2, big, PySem.sizeLine]
  have key := forL_ret (l := sortI (rows.map Q.d)) (g := D.int) (f := foT P W (callF P W n) (.n 2) b18_2) (fun ρ M' => M' = M ∧ ∃ a b c d, ρ = [some (.lst (rows.map Q.l)), some (.lst (il stops)), a, b, c, d]) (rlsE rows stops) (ρ := [some (.lst (rows.map Q.l)), some (.lst (il stops)), none, none, none, none]) (M := M) ⟨rfl, _, _, _, _, rfl⟩ (fun _ _ h => h.1) ?_
  · have hc := lcA_map (l := rows) (acc := []) (f := lcT P W (callF P W n) [some (.lst (rows.map Q.l)), some (.lst (il stops)), none, none, none, none] (.n 5) .nil (.ix (.v 5) (.int 2))) (g := Q.l) (k := fun q => D.int q.d) (M := M) (fun q _ => by simp [lcT_app, Q.l, at2, gslots, wipeR]) (by simp [big, PySem.sizeLine]; omega)
    simp only [List.nil_append] at hc
    simp [f18, b18, hc, intsOf_of]
    unfold rword
    cases hb : (sortI (rows.map Q.d)).findSome? (rlsE rows stops) with
    | none =>
      rw [hb] at key
      obtain ⟨ρ', e, _, a, b, c, d, rfl⟩ := key
      simp [e, big, PySem.sizeLine]
    | some d =>
      rw [hb] at key
      simp [key]
  · rintro due hd ρ ⟨_, a, b, c, d, rfl⟩
    have hc := lcA_map (l := rows) (acc := []) (f := lcT P W (callF P W n) [some (.lst (rows.map Q.l)), some (.lst (il stops)), some (.int due), b, c, d] (.n 5) .nil (.ix (.v 5) (.int 0))) (g := Q.l) (k := fun q => D.int q.r) (M := M) (fun q _ => by simp [lcT_app, Q.l, at0, gslots, wipeR]) (by simp [big, PySem.sizeLine]; omega)
    simp only [List.nil_append] at hc
    have hi := inner due _ ⟨b, c, d, rfl⟩
    unfold rlsE
    simp only [foT_app, b18_2, rSs_cons, rSs_nil, bindG_n, oO_some]
    simp [hc, intsOf_of]
    cases hb : (sortI (rows.map Q.r)).findSome? (rlE rows stops due) with
    | none =>
      rw [hb] at hi
      obtain ⟨ρ', e, _, b, c, d, rfl⟩ := hi
      simp [e]
    | some d =>
      rw [hb] at hi
      simp [hi]
end K27

/-! R27 -/
set_option maxRecDepth 100000
set_option maxHeartbeats 4000000
namespace K27
open G
variable {W : Nat}
variable {n : Nat} {M : Store}
theorem relsE_none {rows : List Q} (h : relsE rows = none) : ∀ q ∈ rows, relBad q = false := by
  intro q hq
  obtain ⟨i, hi⟩ := List.mem_iff_getElem?.mp hq
  have hlt := (List.getElem?_eq_some_iff.mp hi).1
  have := List.findSome?_eq_none_iff.mp h i (List.mem_range.mpr hlt)
  unfold relE at this
  rw [hi] at this
  simp only at this
  split at this
  · cases this
  · simpa using ‹¬ relBad q = true›
theorem releasedE_none {rows : List Q} {stops : List Int} (h : releasedE rows stops = none) : ∀ q ∈ rows, 1 ≤ q.h := by
  unfold releasedE at h
  simp only [Option.or_eq_none_iff] at h
  intro q hq
  have := relsE_none h.2.2.2.2.1 q hq
  simp [relBad] at this
  omega
theorem sum_pos : ∀ {l : List Int}, (∀ v ∈ l, 1 ≤ v) → (0 < l.sum ↔ l ≠ [])
  | [], _ => by simp
  | a :: r, h => by
    have h1 : 1 ≤ a := h a List.mem_cons_self
    have h2 : 0 ≤ r.sum := by
      rcases r with _ | ⟨b, r⟩
      · simp
      · have := (sum_pos (l := b :: r) fun v hv => h v (List.mem_cons_of_mem _ hv)).mpr (by simp)
        omega
    simp; omega
theorem insd_pos {rows : List Q} {due rel : Int} (h : ∀ q ∈ rows, 1 ≤ q.h) : 0 < (insd rows due rel).sum ↔ insd rows due rel ≠ [] := sum_pos fun v hv => by
  obtain ⟨q, hq, rfl⟩ := List.mem_map.mp hv
  exact h q (List.mem_filter.mp hq).1
theorem released_word (rows : List Q) (stops : List Int) (hr : rows.length ≤ 100000) (hs : stops.length ≤ 100000) : callF P W (n + 4) 5 [.lst (rows.map Q.l), .lst (il stops)] M = match releasedE rows stops with | some e => .err e.1 e.2 M | none => .ok (rword rows stops) M := by
  rw [callF_eq (k := f5) rfl rfl]
  have h0 := lcA_map (l := rows) (acc := []) (f := lcT P W (callF P W (n + 3)) [some (.lst (rows.map Q.l)), some (.lst (il stops)), none, none, none, none, none, none] (.n 6) .nil (.bi .tuple (.cons (.v 6) .nil))) (g := Q.l) (k := Q.l) (M := M) (fun q _ => by simp [lcT_app, Q.l, gslots, wipeR]) (by simp [big, PySem.sizeLine]; omega)
  rw [List.nil_append] at h0
  have hck := check_released (W := W) (n := n) (M := M) rows stops hr hs
  simp [f5, b5, h0]
  simp only [hck]
  cases hE : releasedE rows stops with
  | some e => simp
  | none =>
    have hpos := releasedE_none hE
    have inner : ∀ due : Int, ∀ ρ : Rho, (∃ b c d, ρ = [some (.lst (rows.map Q.l)), some (.lst (il stops)), some (.lst (rows.map Q.l)), some (.lst (il stops)), some (.int due), b, c, d]) → match (sortI (rows.map Q.r)).findSome? (rlE rows stops due) with | none => ∃ ρ', forL (foT P W (callF P W (n + 3)) (.n 5) b5_1) ((sortI (rows.map Q.r)).map D.int) ρ M = some (.nx ρ', M) ∧ (M = M ∧ ∃ b c d, ρ' = [some (.lst (rows.map Q.l)), some (.lst (il stops)), some (.lst (rows.map Q.l)), some (.lst (il stops)), some (.int due), b, c, d]) | some d => forL (foT P W (callF P W (n + 3)) (.n 5) b5_1) ((sortI (rows.map Q.r)).map D.int) ρ M = some (.rt d, M) := by
      intro due ρ hρ
      refine forL_ret (fun ρ M' => M' = M ∧ ∃ b c d, ρ = [some (.lst (rows.map Q.l)), some (.lst (il stops)), some (.lst (rows.map Q.l)), some (.lst (il stops)), some (.int due), b, c, d]) (rlE rows stops due) ⟨rfl, hρ⟩ (fun _ _ h => h.1) ?_
      rintro rel _ ρ ⟨_, b, c, d, rfl⟩
      have c1 := lcA_filter (l := rows) (acc := []) (f := lcT P W (callF P W (n + 3)) [some (.lst (rows.map Q.l)), some (.lst (il stops)), some (.lst (rows.map Q.l)), some (.lst (il stops)), some (.int due), some (.int rel), c, d] (.n 6) (.cons (.tand (.cons (.cmp .ge (.ix (.v 6) (.int 0)) (.v 5)) (.cons (.cmp .le (.ix (.v 6) (.int 2)) (.v 4)) .nil))) .nil) (.ix (.v 6) (.int 1))) (g := Q.l) (k := fun q => .int q.h) (p := fun q => decide (rel ≤ q.r) && decide (q.d ≤ due)) (M := M) (fun q _ => by
        by_cases h : rel ≤ q.r <;> by_cases h2 : q.d ≤ due <;> simp [lcT_app, Q.l, at0, at1, at2, gslots, wipeR, h, h2]) (by simp [big, PySem.sizeLine]; omega)
      have c2 : ((rows.filter fun q => decide (rel ≤ q.r) && decide (q.d ≤ due)).map fun q => D.int q.h) = il (insd rows due rel) := by simp [insd, il]
      rw [c2, List.nil_append] at c1
      have hp := insd_pos (due := due) (rel := rel) hpos
      by_cases h : insd rows due rel = []
      · simp [foT_app, b5_1]
        simp only [c1, zbind_ok]
        simp [rlE, h]
      · have h' := hp.mpr h
        by_cases h2 : due - rel < (insd rows due rel).sum + stops.sum
        · simp [foT_app, b5_1]
          simp only [c1, zbind_ok]
          simp [rlE, h, h', h2, big, PySem.sizeLine]
        · simp [foT_app, b5_1]
          simp only [c1, zbind_ok]
          simp [rlE, h, h', h2, big, PySem.sizeLine]
    have key := forL_ret (l := sortI (rows.map Q.d)) (g := D.int) (f := foT P W (callF P W (n + 3)) (.n 4) b5_2) (fun ρ M' => M' = M ∧ ∃ a b c d, ρ = [some (.lst (rows.map Q.l)), some (.lst (il stops)), some (.lst (rows.map Q.l)), some (.lst (il stops)), a, b, c, d]) (rlsE rows stops) (ρ := [some (.lst (rows.map Q.l)), some (.lst (il stops)), some (.lst (rows.map Q.l)), some (.lst (il stops)), none, none, none, none]) (M := M) ⟨rfl, _, _, _, _, rfl⟩ (fun _ _ h => h.1) ?_
    · have hc := lcA_map (l := rows) (acc := []) (f := lcT P W (callF P W (n + 3)) [some (.lst (rows.map Q.l)), some (.lst (il stops)), some (.lst (rows.map Q.l)), some (.lst (il stops)), none, none, none, none] (.n 6) .nil (.ix (.v 6) (.int 2))) (g := Q.l) (k := fun q => D.int q.d) (M := M) (fun q _ => by simp [lcT_app, Q.l, at2, gslots, wipeR]) (by simp [big, PySem.sizeLine]; omega)
      rw [List.nil_append] at hc
      simp
      simp only [hc, zbind_ok]
      simp [intsOf_of]
      unfold rword
      cases hb : (sortI (rows.map Q.d)).findSome? (rlsE rows stops) with
      | none =>
        rw [hb] at key
        obtain ⟨ρ', e, _, a, b, c, d, rfl⟩ := key
        simp [e, big, PySem.sizeLine]
      | some d =>
        rw [hb] at key
        simp [key]
    · rintro due hd ρ ⟨_, a, b, c, d, rfl⟩
      have hc := lcA_map (l := rows) (acc := []) (f := lcT P W (callF P W (n + 3)) [some (.lst (rows.map Q.l)), some (.lst (il stops)), some (.lst (rows.map Q.l)), some (.lst (il stops)), some (.int due), b, c, d] (.n 6) .nil (.ix (.v 6) (.int 0))) (g := Q.l) (k := fun q => D.int q.r) (M := M) (fun q _ => by simp [lcT_app, Q.l, at0, gslots, wipeR]) (by simp [big, PySem.sizeLine]; omega)
      rw [List.nil_append] at hc
      have hi := inner due _ ⟨b, c, d, rfl⟩
      unfold rlsE
      simp only [foT_app, b5_2, rSs_cons, rSs_nil, bindG_n, oO_some]
      simp [hc, intsOf_of]
      cases hb : (sortI (rows.map Q.r)).findSome? (rlE rows stops due) with
      | none =>
        rw [hb] at hi
        obtain ⟨ρ', e, _, b, c, d, rfl⟩ := hi
        simp [e]
      | some d =>
        rw [hb] at hi
        simp [hi]
theorem releasedE_ok {rows : List Q} {stops : List Int} {e : Er} (h : releasedE rows stops = some e) : ErOk e := by
  unfold releasedE at h
  simp only [Option.or_eq_some_iff] at h
  rcases h with h | ⟨_, h | ⟨_, h | ⟨_, h | ⟨_, h | ⟨_, h⟩⟩⟩⟩⟩
  · exact many_ok h
  · exact find_ok h fun a e h => find_ok h fun a e h => many_ok h
  · exact find_ok h fun a e h => many_ok h
  · exact many_ok h
  · refine find_ok h fun i e h => ?_
    unfold relE at h
    split at h
    · split at h
      · cases h; exact .inr ⟨_, _, rfl⟩
      · cases h
    · cases h
  · refine find_ok h fun i e h => ?_
    unfold lowE1 at h
    split at h
    · cases h; exact .inr ⟨_, _, rfl⟩
    · cases h
def toldD (rows : List Q) (stops : List Int) : D := match releasedE rows stops with | some e => madeD e | none => rword rows stops
theorem released_told (rows : List Q) (stops : List Int) (hr : rows.length ≤ 100000) (hs : stops.length ≤ 100000) : callF P W (n + 5) 19 [.lst (rows.map Q.l), .lst (il stops)] M = .ok (toldD rows stops) M := by
  rw [callF_eq (k := f19) rfl rfl]
  have hw := released_word (W := W) (n := n) (M := M) rows stops hr hs
  simp only [f19, b19, rSs_cons, rS_try]
  simp
  simp only [hw]
  unfold toldD
  cases hb : releasedE rows stops with
  | some e =>
    rcases releasedE_ok hb with ⟨x, rfl⟩ | ⟨i, x, rfl⟩
    · simp [handle, er0, runH, runH.runHs, getF, madeD, big, PySem.sizeLine]
    · simp [handle, er1, runH, runH.runHs, getF, madeD, big, PySem.sizeLine]
  | none => simp
end K27

/-! S27 -/
set_option maxRecDepth 100000
set_option maxHeartbeats 4000000
namespace K27
open G
variable {W : Nat}
variable {n : Nat} {M : Store}
/-- a comprehension of ints that draws -/
theorem lcA_ints {α : Type} {f : D → Store → Res (Option D)} {g : α → D} (I : Store → Prop) (p : Int → Prop) {l : List α} {M : Store} (h : ∀ a ∈ l, ∀ M, I M → ∃ v M', f (g a) M = .ok (some (.int v)) M' ∧ I M' ∧ p v) (hI : I M) (hb : l.length ≤ big) :
    ∃ xs M', lcA f (l.map g) [] M = .ok (il xs) M' ∧ I M' ∧ xs.length = l.length ∧ ∀ v ∈ xs, p v := by
  have key : ∀ (l : List α) (acc : List Int) (M : Store), (∀ a ∈ l, ∀ M, I M → ∃ v M', f (g a) M = .ok (some (.int v)) M' ∧ I M' ∧ p v) → I M → acc.length + l.length ≤ big → ∃ xs M', lcA f (l.map g) (il acc) M = .ok (il (acc ++ xs)) M' ∧ I M' ∧ xs.length = l.length ∧ ∀ v ∈ xs, p v := by
    intro l
    induction l with
    | nil => intro acc M _ hI _; exact ⟨[], M, by simp [lcA], hI, rfl, by simp⟩
    | cons a l ih =>
      intro acc M h hI hb
      rw [List.length_cons] at hb
      obtain ⟨v, M', e, i, pv⟩ := h a List.mem_cons_self M hI
      obtain ⟨xs, M2, e2, i2, hl, hp⟩ := ih (acc ++ [v]) M' (fun b hb => h b (List.mem_cons_of_mem _ hb)) i (by simp; omega)
      refine ⟨v :: xs, M2, ?_, i2, by simp [hl], ?_⟩
      · rw [List.map_cons, lcA, e, bind_ok]
        simp only
        rw [if_pos (by simp [il]; omega)]
        have : il acc ++ [.int v] = il (acc ++ [v]) := by simp [il]
        rw [this, e2]
        simp
      · intro u hu
        rcases List.mem_cons.mp hu with rfl | hu
        · exact pv
        · exact hp u hu
  simpa using key l [] M h hI (by simpa using hb)
/-- a bare job, its due not looked at -/
def J.b (j : J) : D := .lst [.int j.s, .lst (il j.x)]
def Bare (j : J) : Prop := 0 ≤ j.s ∧ j.s ≤ 3 ∧ j.x ≠ [] ∧ j.x.length ≤ 8 ∧ (∀ v ∈ j.x, 1 ≤ v ∧ v ≤ 6) ∧ j.d = 1
def Head2 (jobs : List J) : Prop := ∀ j r, jobs = j :: r → ∃ v xs, j.x = v :: xs ∧ 2 ≤ v
theorem drawn (m : Int) (hm : 0 < m) (hm2 : m < 1073741824) {R : Store} {N : Store} (hN : ∃ p, N = pu p :: R) : ∃ v N', 0 ≤ v ∧ v < m ∧ callF P W (n + 1) 7 [.ptr 0, .int m] N = .ok (.int v) N' ∧ ∃ p, N' = pu p :: R := by
  obtain ⟨p, rfl⟩ := hN
  obtain ⟨v, p', h1, h2, h3⟩ := draw (W := W) (n := n) p m hm hm2 R
  exact ⟨v, _, h1, h2, h3, p', rfl⟩
theorem atI_zero {x : D} {r : List D} : L2.atI (x :: r) 0 = some x := atI_nat (i := 0) rfl
theorem ixN_zero {k : Nat} : L2.ixN (k + 1) 0 = some 0 := by
  unfold L2.ixN
  rw [if_pos (by omega), if_pos (by omega)]; rfl
theorem bare_jobs (p : Int × Int × Int) (m : Nat) (hm : m ≤ 100) : ∃ jobs p', jobs.length = m ∧ (∀ j ∈ jobs, Bare j) ∧ Head2 jobs ∧ callF P W (n + 2) 11 [.ptr 0, .int m] [pu p] = .ok (.lst (jobs.map J.b)) [pu p'] := by
  rw [callF_eq (k := f11) rfl rfl]
  have key := forL_inv (l := List.range m) (g := fun (i : Nat) => D.int (i : Int)) (f := foT P W (callF P W (n + 1)) (.n 3) b11_1) (fun i ρ M => ∃ p jobs D0 a b c, ρ = [some (.ptr 0), some (.int m), some (.ptr 1), a, b, c] ∧ M = pu p :: .lst (jobs.map J.b) :: D0 ∧ (jobs : List J).length = i ∧ (∀ j ∈ jobs, Bare j) ∧ Head2 jobs) (ρ := [some (.ptr 0), some (.int m), some (.ptr 1), none, none, none]) (M := [pu p, .lst []]) ⟨p, [], [], none, none, none, rfl, rfl, rfl, by simp, by intro j r h; cases h⟩ ?_
  · obtain ⟨ρ', M', e, p', jobs, D0, a, b, c, rfl, rfl, hl, hB, hH⟩ := key
    refine ⟨jobs, p', by simpa using hl, hB, hH, ?_⟩
    simp [f11, b11, rngI_nat (show m ≤ 16777216 by omega), big, PySem.sizeLine]
    simp [e]
    refine finish_rt_cut2 (N := [pu p']) (R := .dead :: D0) (by simp) (by simp) ?_ ?_
    · simp only [underD, underDs_iff]
      rintro x hx
      obtain ⟨j, _, rfl⟩ := List.mem_map.mp hx
      simp [J.b, underD, underDs, underDs_iff]
    · simp [underO, underDs, underD]
  · rintro i a ρ M hi ⟨p, jobs, D0, a1, a2, a3, rfl, rfl, hl, hB, hH⟩
    obtain ⟨hi, rfl⟩ := range_get hi
    obtain ⟨v1, N1, h10, h11, e1, p1, rfl⟩ := drawn (W := W) (n := n) 16 (by omega) (by omega) (R := .lst (jobs.map J.b) :: D0) ⟨p, rfl⟩
    have hk : ∃ k p2, 1 ≤ k ∧ k ≤ 8 ∧ runI P W (callF P W (n + 1)) [some (.ptr 0), some (.int m), some (.ptr 1), some (.int a), a2, a3] (.rng1 (.ife (.cmp .eq (.call 7 (.cons (.v 0) (.cons (.int 16) .nil))) (.int 0)) (.int 8) (.bin .add (.int 1) (.call 7 (.cons (.v 0) (.cons (.int 3) .nil)))))) (pu p :: .lst (jobs.map J.b) :: D0) = .ok (.items ((List.range k).map fun (i : Nat) => D.int (i : Int))) (pu p2 :: .lst (jobs.map J.b) :: D0) := by
      by_cases hv : v1 = 0
      · refine ⟨8, p1, by omega, by omega, ?_⟩
        have r8 : ∀ M, rngI 8 M = .ok (.items ((List.range 8).map fun (i : Nat) => D.int (i : Int))) M := fun M => rngI_nat (k := 8) (by omega)
        subst hv
        simp only [rI_rng1, rE_ife, rT_cmp, rE_call, rA_cons, rA_nil, rE_v, rE_int, List.getElem?_cons_zero, onV_some, zbind_ok, e1, eq_ii, onB_bl, beq_self_eq_true, if_true, onI_int, r8]
      · obtain ⟨v2, N2, h20, h21, e2, p2, rfl⟩ := drawn (W := W) (n := n) 3 (by omega) (by omega) (R := .lst (jobs.map J.b) :: D0) ⟨p1, rfl⟩
        refine ⟨(1 + v2).toNat, p2, by omega, by omega, ?_⟩
        have r8 : ∀ M, rngI (1 + v2) M = .ok (.items ((List.range (1 + v2).toNat).map fun (i : Nat) => D.int (i : Int))) M := fun M => by
          have := rngI_nat (k := (1 + v2).toNat) (M := M) (by omega)
          rw [Int.toNat_of_nonneg (by omega)] at this
          exact this
        simp [e1, hv, e2, r8]
    obtain ⟨k, p2, hk1, hk8, ek⟩ := hk
    obtain ⟨xs, N3, e3, ⟨p3, rfl⟩, hxl, hx⟩ := lcA_ints (l := List.range k) (f := lcT P W (callF P W (n + 1)) [some (.ptr 0), some (.int m), some (.ptr 1), some (.int a), a2, a3] (.n 5) .nil (.bin .add (.int 1) (.call 7 (.cons (.v 0) (.cons (.int 5) .nil))))) (g := fun (i : Nat) => D.int (i : Int)) (fun N => ∃ p, N = pu p :: .lst (jobs.map J.b) :: D0) (fun v => 1 ≤ v ∧ v ≤ 5) (fun i _ N hN => by
      obtain ⟨v, N', h0, h1, e, hN'⟩ := drawn (W := W) (n := n) 5 (by omega) (by omega) hN
      refine ⟨1 + v, N', ?_, hN', by omega, by omega⟩
      simp [lcT_app, gslots, wipeR, e]) ⟨p2, rfl⟩ (by simp [big, PySem.sizeLine]; omega)
    have hxk : xs.length = k := by simpa using hxl
    obtain ⟨x0, xr, rfl⟩ : ∃ x0 xr, xs = x0 :: xr := by
      cases xs with
      | nil => simp at hxk; omega
      | cons a b => exact ⟨a, b, rfl⟩
    obtain ⟨hx0, hxr⟩ := List.forall_mem_cons.mp hx
    have hbl : jobs.length < big := by simp [big, PySem.sizeLine]; omega
    simp only [foT_app, b11_1, rSs_cons, rSs_nil, bindG_n, oO_some, List.set_cons_succ, List.set_cons_zero]
    refine Nx.step [some (.ptr 0), some (.int m), some (.ptr 1), some (.int a), some (.ptr (D0.length + 1 + 1)), a3] (pu p3 :: .lst (jobs.map J.b) :: (D0 ++ [.lst (il (x0 :: xr))])) (by simp [ek, e3]) ?_
    have fin : ∀ (xs' : List Int) (p : Int × Int × Int) (a3 : Option D), xs' ≠ [] → xs'.length ≤ 8 → (∀ v ∈ xs', 1 ≤ v ∧ v ≤ 6) → (a = 0 → ∃ v r, xs' = v :: r ∧ 2 ≤ v) → Nx (runS P W (callF P W (n + 1)) (.ex (.bm .append (.v 2) (.cons (.lst false (.cons (.call 7 (.cons (.v 0) (.cons (.int 4) .nil))) (.cons (.frz (.v 4)) .nil))) .nil))) [some (.ptr 0), some (.int m), some (.ptr 1), some (.int a), some (.ptr (D0.length + 1 + 1)), a3] (pu p :: .lst (jobs.map J.b) :: (D0 ++ [.lst (il xs')]))) fun ρ' M' => ∃ p jobs D0 b c d, ρ' = [some (.ptr 0), some (.int m), some (.ptr 1), b, c, d] ∧ M' = pu p :: .lst (jobs.map J.b) :: D0 ∧ (jobs : List J).length = a + 1 ∧ (∀ j ∈ jobs, Bare j) ∧ Head2 jobs := by
      intro xs' p a3 h1 h2 h3 h4
      obtain ⟨v, p', h0, hv, e⟩ := draw (W := W) (n := n) p 4 (by omega) (by omega) (.lst (jobs.map J.b) :: (D0 ++ [.lst (il xs')]))
      have hb2 : (2 : Nat) ≤ big := by simp [big, PySem.sizeLine]
      refine ⟨_, _, by simp [e, hb2, hbl, st0, se0]; exact ⟨⟨rfl, rfl, rfl⟩, rfl⟩, p', jobs ++ [⟨v, xs', 1⟩], D0 ++ [.dead], _, _, _, rfl, ?_, by simp [hl], ?_, ?_⟩
      · simp [J.b]
      · intro j hj
        rcases List.mem_append.mp hj with hj | hj
        · exact hB j hj
        · obtain rfl := List.mem_singleton.mp hj
          exact ⟨h0, Int.le_of_lt_add_one hv, h1, h2, h3, rfl⟩
      · intro j r hjr
        cases jobs with
        | nil =>
          simp at hjr
          obtain ⟨v, r, e, hv⟩ := h4 (by simpa using hl.symm)
          exact ⟨v, r, by rw [← hjr.1, e], hv⟩
        | cons j0 r0 =>
          simp at hjr
          exact hH j r0 (by rw [hjr.1])
    by_cases ha : a = 0
    · subst ha
      refine Nx.step [some (.ptr 0), some (.int m), some (.ptr 1), some (.int 0), some (.ptr (D0.length + 1 + 1)), a3] (pu p3 :: .lst (jobs.map J.b) :: (D0 ++ [.lst (il ((x0 + 1) :: xr))])) (by simp [atI_zero, ixN_zero, st0, se0]) (Nx.last ?_)
      refine fin ((x0 + 1) :: xr) p3 _ (by simp) (by simp at hxk ⊢; omega) ?_ (fun _ => ⟨_, _, rfl, by omega⟩)
      intro v hv
      rcases List.mem_cons.mp hv with rfl | hv
      · omega
      · have := hxr v hv; omega
    · refine Nx.step [some (.ptr 0), some (.int m), some (.ptr 1), some (.int a), some (.ptr (D0.length + 1 + 1)), a3] (pu p3 :: .lst (jobs.map J.b) :: (D0 ++ [.lst (il (x0 :: xr))])) (by simp [ha]) (Nx.last ?_)
      refine fin (x0 :: xr) p3 _ (by simp) (by simp at hxk ⊢; omega) ?_ (fun h => absurd h ha)
      intro v hv
      have := hx v hv; omega
end K27

/-! U27 -/
set_option maxRecDepth 100000
set_option maxHeartbeats 4000000
namespace K27
open G
variable {W : Nat}
variable {n : Nat} {M : Store}
/-- a comprehension that draws: pairs of what it walked and what it made -/
theorem lcA_pairs {α β : Type} {f : D → Store → Res (Option D)} {g : α → D} (k : β → D) (I : Store → Prop) (p : α → β → Prop) : ∀ {l : List α} {acc : List D} {M : Store}, (∀ a ∈ l, ∀ M, I M → ∃ b M', f (g a) M = .ok (some (k b)) M' ∧ I M' ∧ p a b) → I M → acc.length + l.length ≤ big →
    ∃ (ps : List (α × β)) (M' : Store), lcA f (l.map g) acc M = .ok (acc ++ ps.map fun q => k q.2) M' ∧ I M' ∧ ps.map Prod.fst = l ∧ ∀ q ∈ ps, p q.1 q.2
  | [], acc, M, _, i, _ => ⟨[], M, by simp [lcA], i, rfl, by simp⟩
  | a :: l, acc, M, h, i, hb => by
    rw [List.length_cons] at hb
    obtain ⟨b, M', e, i', pb⟩ := h a List.mem_cons_self M i
    obtain ⟨ps, M2, e2, i2, hl, hp⟩ := lcA_pairs k I p (acc := acc ++ [k b]) (fun b hb => h b (List.mem_cons_of_mem _ hb)) i' (by simp; omega)
    refine ⟨(a, b) :: ps, M2, ?_, i2, by simp [hl], ?_⟩
    · rw [List.map_cons, lcA, e, bind_ok]
      simp only
      rw [if_pos (by omega), e2]
      simp
    · intro q hq
      rcases List.mem_cons.mp hq with rfl | hq
      · exact pb
      · exact hp q hq
/-- .. over a list of the store that stays -/
theorem lcH_pairs {α β : Type} {f : D → Store → Res (Option D)} {g : α → D} (k : β → D) (I : Store → Prop) (p : α → β → Prop) {l : List α} {j W : Nat} {M : Store} (hj : ∀ M, I M → M[j]? = some (.lst (l.map g))) (h : ∀ a ∈ l, ∀ M, I M → ∃ b M', f (g a) M = .ok (some (k b)) M' ∧ I M' ∧ p a b) (hI : I M) (hb : l.length ≤ big) (hW : l.length < W) :
    ∃ (ps : List (α × β)) (M' : Store), lcW f W (.hot j) M = .ok (ps.map fun q => k q.2) M' ∧ I M' ∧ ps.map Prod.fst = l ∧ ∀ q ∈ ps, p q.1 q.2 := by
  have key : ∀ (m i w : Nat) (acc : List D) (M : Store), i + m = l.length → m < w → I M → acc.length = i → ∃ (ps : List (α × β)) (M' : Store), lcH j f w i acc M = .ok (acc ++ ps.map fun q => k q.2) M' ∧ I M' ∧ ps.map Prod.fst = l.drop i ∧ ∀ q ∈ ps, p q.1 q.2 := by
    intro m
    induction m with
    | zero =>
      intro i w acc M hi hw hI ha
      obtain ⟨w, rfl⟩ : ∃ v, w = v + 1 := ⟨w - 1, by omega⟩
      have e : i = l.length := by omega
      subst e
      exact ⟨[], M, by simp [lcH, hj M hI], hI, by simp, by simp⟩
    | succ m ih =>
      intro i w acc M hi hw hI ha
      obtain ⟨w, rfl⟩ : ∃ v, w = v + 1 := ⟨w - 1, by omega⟩
      have hlt : i < l.length := by omega
      have hg : (l.map g)[i]? = some (g l[i]) := by simp [hlt]
      obtain ⟨b, M', e, i', pb⟩ := h _ (List.getElem_mem hlt) M hI
      obtain ⟨ps, M2, e2, i2, hl, hp⟩ := ih (i + 1) w (acc ++ [k b]) M' (by omega) (by omega) i' (by simp [ha])
      refine ⟨(l[i], b) :: ps, M2, ?_, i2, by rw [List.map_cons, hl, List.drop_eq_getElem_cons hlt], ?_⟩
      · rw [lcH]
        simp only [hj M hI, hg, e, bind_ok]
        rw [if_pos (by omega), e2]
        simp
      · intro q hq
        rcases List.mem_cons.mp hq with rfl | hq
        · exact pb
        · exact hp q hq
  simpa using key l.length 0 W [] M (by omega) hW hI rfl
def Q.b (q : Q) : D := .tup [.int q.r, .int q.h]
def BareQ (unit : Int) (q : Q) : Prop := 0 ≤ q.r ∧ q.r ≤ 6 * unit ∧ unit ≤ q.h ∧ q.h ≤ 4 * unit
theorem mul_iu {i j : Int} (h : 0 ≤ j ∧ j < 18446744073709551616) : binop .mul (.int i) (.int j) M = .ok (.int (i * j)) M := mul_ii (.inr ⟨by omega, h.2⟩)
def hs (l : List Q) : Int := (l.map Q.h).sum
theorem sum_bd {a b : Int} : ∀ {l : List Int}, (∀ v ∈ l, a ≤ v ∧ v ≤ b) → a * l.length ≤ l.sum ∧ l.sum ≤ b * l.length
  | [], _ => by simp
  | x :: l, h => by
    have h1 := h x List.mem_cons_self
    have h2 := sum_bd fun v hv => h v (List.mem_cons_of_mem x hv)
    simp only [List.sum_cons, List.length_cons, Int.natCast_add, Int.mul_add]
    omega
theorem sum_nonneg : ∀ {l : List Int}, (∀ v ∈ l, 0 ≤ v) → 0 ≤ l.sum
  | [], _ => by simp
  | x :: l, h => by
    have h1 := h x List.mem_cons_self
    have h2 := sum_nonneg fun v hv => h v (List.mem_cons_of_mem x hv)
    simp; omega
theorem mem_le_sum : ∀ {l : List Int} {x : Int}, (∀ v ∈ l, 0 ≤ v) → x ∈ l → x ≤ l.sum
  | y :: l, x, h, hx => by
    have h1 := h y List.mem_cons_self
    have h3 := sum_nonneg fun v hv => h v (List.mem_cons_of_mem y hv)
    simp only [List.sum_cons]
    rcases List.mem_cons.mp hx with rfl | hx
    · omega
    · have h2 := mem_le_sum (fun v hv => h v (List.mem_cons_of_mem y hv)) hx
      omega
/-- the three cases of released jobs -/
structure Cases (stops : List Int) (kept drawn late : List Q) : Prop where
  ne : kept ≠ []
  l1 : kept.length ≤ 5
  l2 : drawn.length ≤ 5
  l3 : late.length ≤ 5
  k1 : ∀ q ∈ kept, 0 ≤ q.r ∧ 1 ≤ q.h ∧ 1 ≤ q.d ∧ q.r ≤ 1000000 ∧ q.h ≤ 1000000 ∧ q.d ≤ 1000000
  k2 : ∀ q ∈ drawn, 0 ≤ q.r ∧ 1 ≤ q.h ∧ 1 ≤ q.d ∧ q.r ≤ 1000000 ∧ q.h ≤ 1000000 ∧ q.d ≤ 1000000
  k3 : ∀ q ∈ late, 0 ≤ q.r ∧ 1 ≤ q.h ∧ 1 ≤ q.d ∧ q.r ≤ 1000000 ∧ q.h ≤ 1000000 ∧ q.d ≤ 1000000
  kept : ∀ q ∈ kept, ∀ q' ∈ kept, hs kept + stops.sum ≤ q.d - q'.r
  late : ∃ q ∈ late, q.d - q.r < q.h + stops.sum
theorem releases (p : Int × Int × Int) (stops : List Int) (unit : Int) (hs1 : stops.length ≤ 100) (hs2 : 0 ≤ stops.sum ∧ stops.sum ≤ 1000) (hu : 1 ≤ unit ∧ unit ≤ 30000) (hW : 100000 < W) : ∃ kept drawn late p', Cases stops kept drawn late ∧ callF P W (n + 2) 20 [.ptr 0, .lst (il stops), .int unit] [pu p] = .ok (.lst [.lst (kept.map Q.l), .lst (drawn.map Q.l), .lst (late.map Q.l)]) [pu p'] := by
  rw [callF_eq (k := f20) rfl rfl]
  obtain ⟨k, N0, hk0, hk1, ek, p0, rfl⟩ := drawn (W := W) (n := n) 5 (by omega) (by omega) (R := [.lst []]) ⟨p, rfl⟩
  have hr : ∀ M, rngI (1 + k) M = .ok (.items ((List.range (1 + k).toNat).map fun (i : Nat) => D.int (i : Int))) M := fun M => by
    have := rngI_nat (k := (1 + k).toNat) (M := M) (by omega)
    rw [Int.toNat_of_nonneg (by omega)] at this
    exact this
  have key := forL_inv (l := List.range (1 + k).toNat) (g := fun (i : Nat) => D.int (i : Int)) (f := foT P W (callF P W (n + 1)) (.n 4) b20_1) (fun i ρ M => ∃ p qs a, ρ = [some (.ptr 0), some (.lst (il stops)), some (.int unit), some (.ptr 1), a, none, none, none, none, none, none, none] ∧ M = [pu p, .lst (qs.map Q.b)] ∧ qs.length = i ∧ ∀ q ∈ qs, BareQ unit q) (ρ := [some (.ptr 0), some (.lst (il stops)), some (.int unit), some (.ptr 1), none, none, none, none, none, none, none, none]) (M := [pu p0, .lst []]) ⟨p0, [], none, rfl, rfl, rfl, by simp⟩ (by
    rintro i a ρ M hi ⟨p, qs, a', rfl, rfl, hl, hq⟩
    obtain ⟨hi, rfl⟩ := range_get hi
    obtain ⟨v, p1, h0, h1, e1⟩ := draw (W := W) (n := n) p 7 (by omega) (by omega) [.lst (qs.map Q.b)]
    obtain ⟨u, p2, h2, h3, e2⟩ := draw (W := W) (n := n) p1 4 (by omega) (by omega) [.lst (qs.map Q.b)]
    have hb2 : (2 : Nat) ≤ big := by simp [big, PySem.sizeLine]
    have hbl : qs.length < big := by simp [big, PySem.sizeLine]; omega
    refine ⟨_, _, by simp [foT_app, b20_1, e1, e2, mul_iu (show 0 ≤ unit ∧ _ from ⟨by omega, by omega⟩), hb2, hbl]; exact ⟨rfl, rfl⟩, p2, qs ++ [⟨v * unit, (1 + u) * unit, 0⟩], _, rfl, by simp [Q.b], by simp [hl], ?_⟩
    intro q hq'
    rcases List.mem_append.mp hq' with hq' | hq'
    · exact hq q hq'
    · obtain rfl := List.mem_singleton.mp hq'
      refine ⟨Int.mul_nonneg h0 (by omega), Int.mul_le_mul_of_nonneg_right (by omega) (by omega), ?_, Int.mul_le_mul_of_nonneg_right (by omega) (by omega)⟩
      have : 1 * unit ≤ (1 + u) * unit := Int.mul_le_mul_of_nonneg_right (by omega) (by omega)
      simpa using this)
  obtain ⟨ρ1, M1, e1, p1, qs, a, rfl, rfl, hl, hB⟩ := key
  have hql : qs.length ≤ 5 := by simp at hl; omega
  have hqn : qs ≠ [] := by
    intro h; subst h; simp at hl; omega
  have hbig : qs.length ≤ big := by simp [big, PySem.sizeLine]; omega
  have hWk : ∀ (N : Store) p, N = [pu p, .lst (qs.map Q.b)] → walkOf N (.ptr 1) = some (.hot 1) := fun N p h => walk_ptr (xs := qs.map Q.b) (by rw [h]; rfl)
  have hWl : qs.length < W := by omega
  have c1 := lcW_map (f := lcT P W (callF P W (n + 1)) [some (.ptr 0), some (.lst (il stops)), some (.int unit), some (.ptr 1), a, none, none, none, none, none, none, none] (.n 11) .nil (.ix (.v 11) (.int 1))) (l := qs) (g := Q.b) (k := fun q => D.int q.h) (w := .hot 1) (W := W) (M := [pu p1, .lst (qs.map Q.b)]) (.inr ⟨1, rfl, rfl⟩) (fun q _ => by
    have : L2.atI [D.int q.r, D.int q.h] 1 = some (.int q.h) := rfl
    simp [lcT_app, gslots, wipeR, Q.b, this]) hbig hWl
  have c2 := lcW_map (f := lcT P W (callF P W (n + 1)) [some (.ptr 0), some (.lst (il stops)), some (.int unit), some (.ptr 1), a, some (.int (hs qs + stops.sum)), none, none, none, none, none, none] (.n 11) .nil (.ix (.v 11) (.int 0))) (l := qs) (g := Q.b) (k := fun q => D.int q.r) (w := .hot 1) (W := W) (M := [pu p1, .lst (qs.map Q.b)]) (.inr ⟨1, rfl, rfl⟩) (fun q _ => by
    simp [lcT_app, gslots, wipeR, Q.b, atI_zero]) hbig hWl
  simp only [List.length_map, List.length_range] at hl
  have suf : Rt (runSs P W (callF P W (n + 1)) f20.body [some (.ptr 0), some (.lst (il stops)), some (.int unit), none, none, none, none, none, none, none, none, none] [pu p]) (fun d M' => ∃ kept drawn late p' R, Cases stops kept drawn late ∧ d = .lst [.lst (kept.map Q.l), .lst (drawn.map Q.l), .lst (late.map Q.l)] ∧ M' = pu p' :: R) := by
    simp only [f20, b20, rSs_cons, rSs_nil]
    refine Rt.step [some (.ptr 0), some (.lst (il stops)), some (.int unit), some (.ptr 1), none, none, none, none, none, none, none, none] [pu p, .lst []] (by simp [big, PySem.sizeLine]) ?_
    refine Rt.step _ _ (by simp [ek, hr]; exact e1) ?_
    have e5 : intsOf (qs.map fun q => D.int q.h) = some (qs.map Q.h) := intsOf_of
    have e6 : intsOf (qs.map fun q => D.int q.r) = some (qs.map Q.r) := intsOf_of
    refine Rt.step [some (.ptr 0), some (.lst (il stops)), some (.int unit), some (.ptr 1), a, some (.int (hs qs + stops.sum)), none, none, none, none, none, none] [pu p1, .lst (qs.map Q.b)] (by
      simp only [rS_asg, rE_bin, rE_bi, rA_cons, rA_nil, rE_lc, rI_val, rE_v, List.getElem?_cons_zero, List.getElem?_cons_succ, onV_some, zbind_ok, hWk _ p1 rfl, onO_some, c1, newL_f, bi_sum, seqOf_lst, Option.bind_some, e5, intsOf_map, add_ii, zwith_ok]
      rfl) ?_
    have hmx : (qs.map Q.r).max? = some (mx (qs.map Q.r)) := mx_some (by simpa using hqn)
    refine Rt.step [some (.ptr 0), some (.lst (il stops)), some (.int unit), some (.ptr 1), a, some (.int (hs qs + stops.sum)), some (.int (mx (qs.map Q.r))), none, none, none, none, none] [pu p1, .lst (qs.map Q.b)] (by
      simp only [rS_asg, rE_bin, rE_bi, rA_cons, rA_nil, rE_lc, rI_val, rE_v, List.getElem?_cons_zero, List.getElem?_cons_succ, onV_some, zbind_ok, hWk _ p1 rfl, onO_some, c2, newL_f, bi_max1, seqOf_lst, Option.bind_some, e6, maxOf, hmx, add_ii, zwith_ok]
      rfl) ?_
    have hin : ∀ q ∈ qs, BareQ unit q := hB
    have hxr : ∀ q : Q, L2.atI [D.int q.r, D.int q.h] 1 = some (.int q.h) := fun _ => rfl
    have hb3 : (3 : Nat) ≤ big := by simp [big, PySem.sizeLine]
    obtain ⟨ps, N2, e7, ⟨p2, rfl⟩, hps, hp⟩ := lcH_pairs (f := lcT P W (callF P W (n + 1)) [some (.ptr 0), some (.lst (il stops)), some (.int unit), some (.ptr 1), a, some (.int (hs qs + stops.sum)), some (.int (mx (qs.map Q.r))), none, none, none, none, none] (.n 11) .nil (.tup (.cons (.ix (.v 11) (.int 0)) (.cons (.ix (.v 11) (.int 1)) (.cons (.bin .add (.bin .add (.v 6) (.v 5)) (.call 7 (.cons (.v 0) (.cons (.int 3) .nil)))) .nil))))) (g := Q.b) Q.l (fun N => ∃ p, N = [pu p, .lst (qs.map Q.b)]) (fun a b => b.r = a.r ∧ b.h = a.h ∧ mx (qs.map Q.r) + (hs qs + stops.sum) ≤ b.d ∧ b.d ≤ mx (qs.map Q.r) + (hs qs + stops.sum) + 2) (l := qs) (j := 1) (W := W) (M := [pu p1, .lst (qs.map Q.b)]) (by rintro N ⟨p, rfl⟩; rfl) (by
      rintro q _ N ⟨p, rfl⟩
      obtain ⟨v, p', h0, h1, e⟩ := draw (W := W) (n := n) p 3 (by omega) (by omega) [.lst (qs.map Q.b)]
      refine ⟨⟨q.r, q.h, mx (qs.map Q.r) + (hs qs + stops.sum) + v⟩, _, ?_, ⟨p', rfl⟩, rfl, rfl, ?_, ?_⟩
      · simp [lcT_app, gslots, wipeR, Q.b, atI_zero, hxr, e, hb3, Q.l]
      · show _ ≤ mx (qs.map Q.r) + (hs qs + stops.sum) + v; omega
      · show mx (qs.map Q.r) + (hs qs + stops.sum) + v ≤ _; omega) ⟨p1, rfl⟩ hbig hWl
    refine Rt.step [some (.ptr 0), some (.lst (il stops)), some (.int unit), some (.ptr 1), a, some (.int (hs qs + stops.sum)), some (.int (mx (qs.map Q.r))), some (.lst ((ps.map Prod.snd).map Q.l)), none, none, none, none] [pu p2, .lst (qs.map Q.b)] (by
      simp only [rS_asg, rE_lc, rI_val, rE_v, List.getElem?_cons_zero, List.getElem?_cons_succ, onV_some, zbind_ok, hWk _ p1 rfl, onO_some, e7, newL_f, zwith_ok]
      simp) ?_
    have hS := hs2
    have hpos : ∀ q ∈ qs, 1 ≤ q.h := fun q hq => by have := (hin q hq).2.2.1; omega
    have hhs : 0 ≤ hs qs ∧ hs qs ≤ 600000 := by
      have := sum_bd (l := qs.map Q.h) (a := 0) (b := 120000) fun v hv => by
        obtain ⟨q, hq, rfl⟩ := List.mem_map.mp hv
        have := hin q hq; have := this.2.2; omega
      simp at this
      unfold hs
      omega
    have hmr : 0 ≤ mx (qs.map Q.r) ∧ mx (qs.map Q.r) ≤ 180000 := by
      obtain ⟨q, hq, e⟩ := List.mem_map.mp (List.max?_mem hmx)
      have := hin q hq
      rw [← e]
      exact ⟨this.1, by have := this.2.1; omega⟩
    obtain ⟨ds, N3, e8, ⟨p3, rfl⟩, hds, hd⟩ := lcH_pairs (f := lcT P W (callF P W (n + 1)) [some (.ptr 0), some (.lst (il stops)), some (.int unit), some (.ptr 1), a, some (.int (hs qs + stops.sum)), some (.int (mx (qs.map Q.r))), some (.lst ((ps.map Prod.snd).map Q.l)), none, none, none, none] (.n 11) .nil (.tup (.cons (.ix (.v 11) (.int 0)) (.cons (.ix (.v 11) (.int 1)) (.cons (.bin .add (.bin .add (.ix (.v 11) (.int 0)) (.ix (.v 11) (.int 1))) (.call 7 (.cons (.v 0) (.cons (.bin .add (.v 5) (.int 1)) .nil)))) .nil))))) (g := Q.b) Q.l (fun N => ∃ p, N = [pu p, .lst (qs.map Q.b)]) (fun a b => b.r = a.r ∧ b.h = a.h ∧ a.r + a.h ≤ b.d ∧ b.d ≤ a.r + a.h + (hs qs + stops.sum)) (l := qs) (j := 1) (W := W) (M := [pu p2, .lst (qs.map Q.b)]) (by rintro N ⟨p, rfl⟩; rfl) (by
      rintro q _ N ⟨p, rfl⟩
      obtain ⟨v, p', h0, h1, e⟩ := draw (W := W) (n := n) p (hs qs + stops.sum + 1) (by omega) (by omega) [.lst (qs.map Q.b)]
      refine ⟨⟨q.r, q.h, q.r + q.h + v⟩, _, ?_, ⟨p', rfl⟩, rfl, rfl, ?_, ?_⟩
      · simp [lcT_app, gslots, wipeR, Q.b, atI_zero, hxr, e, hb3, Q.l]
      · show _ ≤ q.r + q.h + v; omega
      · show q.r + q.h + v ≤ _; omega) ⟨p2, rfl⟩ hbig hWl
    refine Rt.step [some (.ptr 0), some (.lst (il stops)), some (.int unit), some (.ptr 1), a, some (.int (hs qs + stops.sum)), some (.int (mx (qs.map Q.r))), some (.lst ((ps.map Prod.snd).map Q.l)), some (.lst ((ds.map Prod.snd).map Q.l)), none, none, none] [pu p3, .lst (qs.map Q.b)] (by
      simp only [rS_asg, rE_lc, rI_val, rE_v, List.getElem?_cons_zero, List.getElem?_cons_succ, onV_some, zbind_ok, hWk _ p2 rfl, onO_some, e8, newL_f, zwith_ok]
      simp) ?_
    obtain ⟨i, p4, hi0, hi1, e9⟩ := draw (W := W) (n := n) p3 qs.length (by omega) (by omega) [.lst (qs.map Q.b)]
    refine Rt.step [some (.ptr 0), some (.lst (il stops)), some (.int unit), some (.ptr 1), a, some (.int (hs qs + stops.sum)), some (.int (mx (qs.map Q.r))), some (.lst ((ps.map Prod.snd).map Q.l)), some (.lst ((ds.map Prod.snd).map Q.l)), some (.int i), none, none] [pu p4, .lst (qs.map Q.b)] (by simp [e9]) ?_
    refine Rt.step [some (.ptr 0), some (.lst (il stops)), some (.int unit), some (.ptr 1), a, some (.int (hs qs + stops.sum)), some (.int (mx (qs.map Q.r))), some (.lst ((ps.map Prod.snd).map Q.l)), some (.lst ((ds.map Prod.snd).map Q.l)), some (.int i), some (.ptr 2), none] [pu p4, .lst (qs.map Q.b), .lst ((ds.map Prod.snd).map Q.l)] (by simp) ?_
    obtain ⟨k, rfl⟩ : ∃ k : Nat, i = k := ⟨i.toNat, by omega⟩
    have hk : k < qs.length := by omega
    have hdl : ds.length = qs.length := by rw [← hds]; simp
    have hpl : ps.length = qs.length := by rw [← hps]; simp
    have hgq : L2.atI (qs.map Q.b) (k : Int) = some (.tup [.int qs[k].r, .int qs[k].h]) := atI_nat (by simp [hk, Q.b])
    have hix : ∀ m : Nat, k < m → L2.ixN m (k : Int) = some k := fun m hm => by
      unfold L2.ixN
      rw [if_pos (by omega), if_pos (by omega)]; simp
    have hq := hin _ (List.getElem_mem hk)
    have hqp := hpos _ (List.getElem_mem hk)
    generalize hqk : qs[k] = q at hgq hq hqp
    let late1 : List D := ((ds.map Prod.snd).map Q.l).set k (.tup [.int q.r, .int q.h, .int (if 1 < q.r + q.h + stops.sum - 1 then q.r + q.h + stops.sum - 1 else 1)])
    have hll : ((ds.map Prod.snd).map Q.l).length = qs.length := by simp [hdl]
    have hixl := hix ((ds.map Prod.snd).map Q.l).length (by omega)
    refine Rt.step [some (.ptr 0), some (.lst (il stops)), some (.int unit), some (.ptr 1), a, some (.int (hs qs + stops.sum)), some (.int (mx (qs.map Q.r))), some (.lst ((ps.map Prod.snd).map Q.l)), some (.lst ((ds.map Prod.snd).map Q.l)), some (.int k), some (.ptr 2), none] [pu p4, .lst (qs.map Q.b), .lst late1] (by
      generalize hLL : (ds.map Prod.snd).map Q.l = LL at hixl
      simp [hgq, hxr, atI_zero, hb3, hixl, late1, hLL]) ?_
    let late2 : List Q := (ds.map Prod.snd).set k (if q.r + q.h + stops.sum - 1 < 1 then ⟨q.r, 2, 1⟩ else ⟨q.r, q.h, if 1 < q.r + q.h + stops.sum - 1 then q.r + q.h + stops.sum - 1 else 1⟩)
    have hixl2 := hix late1.length (by simp [late1, hdl]; omega)
    refine Rt.step [some (.ptr 0), some (.lst (il stops)), some (.int unit), some (.ptr 1), a, some (.int (hs qs + stops.sum)), some (.int (mx (qs.map Q.r))), some (.lst ((ps.map Prod.snd).map Q.l)), some (.lst ((ds.map Prod.snd).map Q.l)), some (.int k), some (.ptr 2), none] [pu p4, .lst (qs.map Q.b), .lst (late2.map Q.l)] (by
      by_cases h : q.r + q.h + stops.sum - 1 < 1
      · generalize hLL : late1 = LL at hixl2
        simp [hgq, hxr, atI_zero, hb3, h, hixl2]
        rw [← hLL]
        simp [late1, late2, h, Q.l, List.map_set]
      · simp [hgq, hxr, atI_zero, hb3, h]
        simp [late1, late2, h, Q.l, List.map_set]) ?_
    refine Rt.of (.lst [.lst ((ps.map Prod.snd).map Q.l), .lst ((ds.map Prod.snd).map Q.l), .lst (late2.map Q.l)]) [pu p4, .lst (qs.map Q.b), .dead] (by simp [hb3]) ⟨ps.map Prod.snd, ds.map Prod.snd, late2, p4, _, ?_, rfl, rfl⟩
    have hs_eq : hs (ps.map Prod.snd) = hs qs := by
      unfold hs
      rw [← hps, List.map_map, List.map_map]
      congr 1
      exact List.map_congr_left fun x hx => (hp x hx).2.1
    have hmem : ∀ x ∈ ps, x.1 ∈ qs := fun x hx => by rw [← hps]; exact List.mem_map_of_mem hx
    have hmemd : ∀ x ∈ ds, x.1 ∈ qs := fun x hx => by rw [← hds]; exact List.mem_map_of_mem hx
    have K2 : ∀ q ∈ ds.map Prod.snd, 0 ≤ q.r ∧ 1 ≤ q.h ∧ 1 ≤ q.d ∧ q.r ≤ 1000000 ∧ q.h ≤ 1000000 ∧ q.d ≤ 1000000 := by
      intro b hb
      obtain ⟨x, hx, rfl⟩ := List.mem_map.mp hb
      have h1 := hd x hx
      have h2 := hin _ (hmemd x hx)
      have h3 := hpos _ (hmemd x hx)
      obtain ⟨e1, e2, e3, e4⟩ := h1
      obtain ⟨f1, f2, f3, f4⟩ := h2
      omega
    refine ⟨?_, ?_, ?_, ?_, ?_, K2, ?_, ?_, ?_⟩
    · intro h
      have := congrArg List.length h
      simp at this
      subst this
      simp at hpl
      omega
    · simp; omega
    · simp; omega
    · simp [late2]; omega
    · intro b hb
      obtain ⟨x, hx, rfl⟩ := List.mem_map.mp hb
      have h1 := hp x hx
      have h2 := hin _ (hmem x hx)
      have h3 := hpos _ (hmem x hx)
      obtain ⟨e1, e2, e3, e4⟩ := h1
      obtain ⟨f1, f2, f3, f4⟩ := h2
      have : x.1.h ≤ hs qs := by
        unfold hs
        exact mem_le_sum (fun v hv => by obtain ⟨q, hq, rfl⟩ := List.mem_map.mp hv; have := hpos q hq; omega) (List.mem_map_of_mem (hmem x hx))
      omega
    · intro b hb
      obtain ⟨f1, f2, f3, f4⟩ := hq
      rcases List.mem_or_eq_of_mem_set hb with hb | rfl
      · exact K2 b hb
      · split
        · dsimp only
          omega
        · dsimp only
          refine ⟨f1, hqp, ?_, ?_, ?_, ?_⟩
          · split <;> omega
          · omega
          · omega
          · split <;> omega
    · intro b hb b' hb'
      obtain ⟨x, hx, rfl⟩ := List.mem_map.mp hb
      obtain ⟨y, hy, rfl⟩ := List.mem_map.mp hb'
      have h1 := hp x hx
      have h2 := hp y hy
      have : y.1.r ≤ mx (qs.map Q.r) := (List.max?_eq_some_iff.mp hmx).2 _ (List.mem_map_of_mem (hmem y hy))
      obtain ⟨e1, e2, e3, e4⟩ := h1
      obtain ⟨f1, f2, f3, f4⟩ := h2
      rw [hs_eq]
      omega
    · have hkd : k < (ds.map Prod.snd).length := by simp; omega
      refine ⟨_, List.mem_set hkd _, ?_⟩
      obtain ⟨f1, f2, f3, f4⟩ := hq
      split
      · dsimp only
        omega
      · dsimp only
        split <;> omega
  obtain ⟨d, M', e, kept, drawn, late, p', R, hC, rfl, rfl⟩ := suf
  refine ⟨kept, drawn, late, p', hC, ?_⟩
  have e' : (List.map some [D.ptr 0, D.lst (il stops), D.int unit] ++ List.replicate (f20.names.length - f20.np) none) = [some (.ptr 0), some (.lst (il stops)), some (.int unit), none, none, none, none, none, none, none, none, none] := rfl
  rw [e', e]
  refine finish_rt_cut2 (N := [pu p']) (R := R) rfl rfl ?_ ?_
  · simp only [underD, underDs, underDs_iff, Bool.and_eq_true, Bool.and_true, and_true]
    refine ⟨?_, ?_, ?_⟩ <;>
    · intro x hx
      obtain ⟨j, _, rfl⟩ := List.mem_map.mp hx
      simp [Q.l, underD, underDs]
  · simp [underO, underDs, underD]
end K27

/-! V27 -/
set_option maxRecDepth 100000
set_option maxHeartbeats 4000000
namespace K27
open G
variable {W : Nat}
variable {n : Nat} {M : Store}
mutual
theorem eqd_refl : ∀ (d : D) (k : Nat), okd k d = true → eqd d d = true
  | .non, _, _ => rfl
  | .bl _, _, _ => by simp [eqd]
  | .int _, _, _ => by simp [eqd]
  | .str _, _, _ => by simp [eqd]
  | .tup xs, 0, h => by simp [okd] at h
  | .tup xs, k + 1, h => by rw [eqd]; exact eqds_refl xs k (by simpa only [okd] using h)
  | .lst xs, 0, h => by simp [okd] at h
  | .lst xs, k + 1, h => by rw [eqd]; exact eqds_refl xs k (by simpa only [okd] using h)
  | .scr _, k, h => by cases k <;> simp [okd] at h
  | .ptr _, k, h => by cases k <;> simp [okd] at h
theorem eqds_refl : ∀ (xs : List D) (k : Nat), xs.all (okd k) = true → eqds xs xs = true
  | [], _, _ => rfl
  | x :: xs, k, h => by
    rw [List.all_cons, Bool.and_eq_true] at h
    rw [eqds, eqd_refl x k h.1, eqds_refl xs k h.2]; rfl
end
theorem ne_same {d : D} (h : okd 12 (top M d) = true) : cmpop .ne d d M = .ok (.bl false) M := by
  rw [ne_dd h h, eqd_refl _ _ h]; rfl
theorem eq_same {d : D} (h : okd 12 (top M d) = true) : cmpop .eq d d M = .ok (.bl true) M := by
  rw [eq_dd h h, eqd_refl _ _ h]
def NumOk (v : Int) : Prop := v ≤ 1000000
theorem numE_none {v : Int} (h : v ≤ 1000000) : numE v = none := by
  unfold numE many
  rw [if_neg (by omega)]
structure QOk (q : Q) : Prop where
  r : 0 ≤ q.r
  h : 1 ≤ q.h
  d : 1 ≤ q.d
  r1 : q.r ≤ 1000000
  h1 : q.h ≤ 1000000
  d1 : q.d ≤ 1000000
theorem qE_none {q : Q} (h1 : q.r ≤ 1000000) (h2 : q.h ≤ 1000000) (h3 : q.d ≤ 1000000) : qE q = none := by
  unfold qE Q.is
  simp [numE_none h1, numE_none h2, numE_none h3]
theorem relE_at {rows : List Q} {i : Nat} {q : Q} (h : rows[i]? = some q) : relE rows i = if relBad q = true then some (1, [.int i, .str "job"]) else none := by
  unfold relE; rw [h]
theorem relBad_ok {q : Q} (h : QOk q) : relBad q = false := by
  have := h.r; have := h.h; have := h.d
  simp [relBad]; omega
theorem relsE_ok {rows : List Q} (h : ∀ q ∈ rows, QOk q) : relsE rows = none := by
  unfold relsE
  rw [List.findSome?_eq_none_iff]
  intro i hi
  have hi := range_mem hi
  rw [relE_at (show rows[i]? = some rows[i] by simp [hi]), relBad_ok (h _ (List.getElem_mem hi))]
  rfl
structure StOk (stops : List Int) : Prop where
  l : stops.length ≤ 7
  v : ∀ v ∈ stops, 1 ≤ v ∧ v ≤ 1000000
theorem lowE1_at {l : List Int} {i : Nat} {v : Int} (h : l[i]? = some v) : lowE1 l i = if v < 1 then some (1, [.int i, .str "stop"]) else none := by
  unfold lowE1; rw [h]; rfl
theorem lowE_ok {l : List Int} (h : ∀ v ∈ l, 1 ≤ v) : lowE l = none := by
  unfold lowE
  rw [List.findSome?_eq_none_iff]
  intro i hi
  have hi := range_mem hi
  rw [lowE1_at (show l[i]? = some l[i] by simp [hi]), if_neg]
  have := h _ (List.getElem_mem hi)
  omega
theorem find_num {l : List Int} (h : ∀ v ∈ l, v ≤ 1000000) : l.findSome? numE = none := by
  rw [List.findSome?_eq_none_iff]
  exact fun v hv => numE_none (h v hv)
theorem many_no {x : PySem.Str} {c : Prop} [Decidable c] (h : ¬ c) : many x c = none := if_neg h
theorem many_yes {x : PySem.Str} {c : Prop} [Decidable c] (h : c) : many x c = some (0, [.str x]) := if_pos h
theorem releasedE_fine {rows : List Q} {stops : List Int} (hl : rows.length ≤ 12) (h : ∀ q ∈ rows, QOk q) (hs : StOk stops) : releasedE rows stops = none := by
  unfold releasedE
  rw [many_no (by omega), List.findSome?_eq_none_iff.mpr fun q hq => qE_none (h q hq).r1 (h q hq).h1 (h q hq).d1, find_num fun v hv => (hs.v v hv).2, many_no (by have := hs.l; omega), relsE_ok h, lowE_ok fun v hv => (hs.v v hv).1]
  rfl
/-- the first of a row that has one, none ahead -/
theorem find_at {α : Type} {f : Nat → Option α} {n i : Nat} {a : α} (hi : i < n) (h : f i = some a) (h0 : ∀ j, j < i → f j = none) : (List.range n).findSome? f = some a := by
  induction n with
  | zero => omega
  | succ n ih =>
    rw [List.range_succ, List.findSome?_append]
    by_cases e : i = n
    · subst e
      have : (List.range i).findSome? f = none := by
        rw [List.findSome?_eq_none_iff]
        exact fun j hj => h0 j (range_mem hj)
      rw [this]; simp [h]
    · rw [ih (by omega)]; rfl
theorem relsE_at {rows : List Q} {i : Nat} {q : Q} (h : rows[i]? = some q) (hb : relBad q = true) (h0 : ∀ j, j < i → ∀ q, rows[j]? = some q → QOk q) : relsE rows = some (1, [.int i, .str "job"]) := by
  have hi := (List.getElem?_eq_some_iff.mp h).1
  refine find_at hi (by rw [relE_at h, hb]; rfl) fun j hj => ?_
  have : rows[j]? = some (rows[j]'(by omega)) := by simp
  rw [relE_at this, relBad_ok (h0 j hj _ this)]; rfl
theorem lowE_last {l : List Int} (h : ∀ v ∈ l, 1 ≤ v) : lowE (l ++ [0]) = some (1, [.int l.length, .str "stop"]) := by
  refine find_at (i := l.length) (by simp) ?_ fun j hj => ?_
  · rw [lowE1_at (v := 0) (by simp)]; rfl
  · rw [lowE1_at (v := l[j]) (by rw [List.getElem?_append_left hj]; simp [hj]), if_neg]
    have := h _ (List.getElem_mem hj)
    omega
theorem StOk.more {stops : List Int} (h : StOk stops) : (stops ++ [0]).findSome? numE = none ∧ (stops ++ [0]).length ≤ 8 := by
  refine ⟨find_num fun v hv => ?_, by have := h.l; simp; omega⟩
  rcases List.mem_append.mp hv with hv | hv
  · exact (h.v v hv).2
  · obtain rfl := List.mem_singleton.mp hv; decide
theorem told_job {rows : List Q} {stops : List Int} {i : Nat} {q : Q} (hs : StOk stops) (hl : rows.length ≤ 12) (hq : ∀ q ∈ rows, q.r ≤ 1000000 ∧ q.h ≤ 1000000 ∧ q.d ≤ 1000000) (h : rows[i]? = some q) (hb : relBad q = true) (h0 : ∀ j, j < i → ∀ q, rows[j]? = some q → QOk q) :
    toldD rows (stops ++ [0]) = .tup [.str "bad", .str "job", .int i] := by
  unfold toldD releasedE
  obtain ⟨s1, s2⟩ := hs.more
  rw [many_no (by omega), List.findSome?_eq_none_iff.mpr fun q hqm => qE_none (hq q hqm).1 (hq q hqm).2.1 (hq q hqm).2.2, s1, many_no (by omega), relsE_at h hb h0]
  rfl
theorem told_stop {rows : List Q} {stops : List Int} (hs : StOk stops) (hl : rows.length ≤ 12) (h : ∀ q ∈ rows, QOk q) : toldD rows (stops ++ [0]) = .tup [.str "bad", .str "stop", .int stops.length] := by
  unfold toldD releasedE
  obtain ⟨s1, s2⟩ := hs.more
  rw [many_no (by omega), List.findSome?_eq_none_iff.mpr fun q hq => qE_none (h q hq).r1 (h q hq).h1 (h q hq).d1, s1, many_no (by omega), relsE_ok h, lowE_last fun v hv => (hs.v v hv).1]
  rfl
theorem told_jobs {rows : List Q} {stops : List Int} (h : 12 < rows.length) : toldD rows stops = .tup [.str "many", .str "jobs"] := by
  unfold toldD releasedE
  rw [many_yes (by omega)]
  rfl
theorem told_stops {rows : List Q} {stops : List Int} (hl : rows.length ≤ 12) (hq : ∀ q ∈ rows, q.r ≤ 1000000 ∧ q.h ≤ 1000000 ∧ q.d ≤ 1000000) (hs : ∀ v ∈ stops, v ≤ 1000000) (h : 8 < stops.length) : toldD rows stops = .tup [.str "many", .str "stops"] := by
  unfold toldD releasedE
  rw [many_no (by omega), List.findSome?_eq_none_iff.mpr fun q hqm => qE_none (hq q hqm).1 (hq q hqm).2.1 (hq q hqm).2.2, find_num hs, many_yes (by omega)]
  rfl
theorem qE_len {q : Q} (h : 1000000 < q.r ∨ 1000000 < q.h ∨ 1000000 < q.d) : qE q = some (0, [.str "length"]) := by
  unfold qE Q.is
  have hn : ∀ v, numE v = if 1000000 < v then some (0, [.str "length"]) else none := fun v => rfl
  simp only [List.findSome?_cons, hn, List.findSome?_nil]
  by_cases h1 : 1000000 < q.r <;> by_cases h2 : 1000000 < q.h <;> by_cases h3 : 1000000 < q.d <;> simp [h1, h2, h3]
  omega
theorem told_len {rows : List Q} {stops : List Int} {q : Q} (hl : rows.length ≤ 11) (hq : ∀ q ∈ rows, q.r ≤ 1000000 ∧ q.h ≤ 1000000 ∧ q.d ≤ 1000000) (h : 1000000 < q.r ∨ 1000000 < q.h ∨ 1000000 < q.d) : toldD (rows ++ [q]) stops = .tup [.str "many", .str "length"] := by
  unfold toldD releasedE
  rw [many_no (by simp; omega), List.findSome?_append, List.findSome?_eq_none_iff.mpr fun q hqm => qE_none (hq q hqm).1 (hq q hqm).2.1 (hq q hqm).2.2]
  simp only [List.findSome?_cons, qE_len h]
  rfl
theorem toldD_fine {rows : List Q} {stops : List Int} (hl : rows.length ≤ 12) (h : ∀ q ∈ rows, QOk q) (hs : StOk stops) : toldD rows stops = rword rows stops := by
  unfold toldD
  rw [releasedE_fine hl h hs]
theorem sum_filter_le {rows : List Q} {p : Q → Bool} (h : ∀ q ∈ rows, 1 ≤ q.h) : ((rows.filter p).map Q.h).sum ≤ hs rows := by
  unfold hs
  induction rows with
  | nil => simp
  | cons a r ih =>
    have h1 := h a List.mem_cons_self
    have h2 := ih fun q hq => h q (List.mem_cons_of_mem _ hq)
    rw [List.filter_cons]
    split <;> simp <;> omega
theorem rword_kept {stops : List Int} {rows : List Q} (h : ∀ q ∈ rows, QOk q) (hk : ∀ q ∈ rows, ∀ q' ∈ rows, hs rows + stops.sum ≤ q.d - q'.r) : rword rows stops = .tup [.str "kept"] := by
  unfold rword
  rw [List.findSome?_eq_none_iff.mpr]
  · rfl
  intro due hdue
  unfold rlsE
  rw [List.findSome?_eq_none_iff]
  intro rel hrel
  obtain ⟨q, hq, rfl⟩ := List.mem_map.mp (sortI_mem.mp hdue)
  obtain ⟨q', hq', rfl⟩ := List.mem_map.mp (sortI_mem.mp hrel)
  unfold rlE
  rw [if_neg]
  rintro ⟨_, h2⟩
  have h1 := hk q hq q' hq'
  have h3 : (insd rows q.d q'.r).sum ≤ hs rows := sum_filter_le fun q hq => (h q hq).h
  omega
theorem rword_late {stops : List Int} {rows : List Q} (h : ∀ q ∈ rows, QOk q) (hk : ∃ q ∈ rows, q.d - q.r < q.h + stops.sum) : ∃ a b c, rword rows stops = .tup [.str "late", .int a, .int b, .int c] := by
  unfold rword
  obtain ⟨q, hq, hlt⟩ := hk
  have h1 : rlE rows stops q.d q.r ≠ none := by
    have hm : q ∈ rows.filter fun q' => decide (q.r ≤ q'.r) && decide (q'.d ≤ q.d) := List.mem_filter.mpr ⟨hq, by simp⟩
    have hm2 : q.h ∈ insd rows q.d q.r := List.mem_map_of_mem hm
    have h2 : q.h ≤ (insd rows q.d q.r).sum := mem_le_sum (fun v hv => by
      obtain ⟨q', hq', rfl⟩ := List.mem_map.mp hv
      have := (h q' (List.mem_filter.mp hq').1).h; omega) hm2
    unfold rlE
    rw [if_pos ⟨fun e => (by rw [e] at hm2; cases hm2), (by omega)⟩]
    simp
  have h2 : rlsE rows stops q.d ≠ none := fun e => h1 (List.findSome?_eq_none_iff.mp e q.r (sortI_mem.mpr (List.mem_map_of_mem hq)))
  cases hf : (sortI (rows.map Q.d)).findSome? (rlsE rows stops) with
  | none => exact absurd (List.findSome?_eq_none_iff.mp hf q.d (sortI_mem.mpr (List.mem_map_of_mem hq))) h2
  | some d =>
    obtain ⟨due, _, e⟩ := List.exists_of_findSome?_eq_some hf
    obtain ⟨rel, _, e⟩ := List.exists_of_findSome?_eq_some e
    unfold rlE at e
    split at e
    · cases e; exact ⟨_, _, _, rfl⟩
    · cases e
theorem rword_form {stops : List Int} {rows : List Q} : rword rows stops = .tup [.str "kept"] ∨ ∃ a b c, rword rows stops = .tup [.str "late", .int a, .int b, .int c] := by
  unfold rword
  cases hf : (sortI (rows.map Q.d)).findSome? (rlsE rows stops) with
  | none => exact .inl rfl
  | some d =>
    obtain ⟨due, _, e⟩ := List.exists_of_findSome?_eq_some hf
    obtain ⟨rel, _, e⟩ := List.exists_of_findSome?_eq_some e
    unfold rlE at e
    split at e
    · cases e; exact .inr ⟨_, _, _, rfl⟩
    · cases e
end K27

/-! W27 -/
set_option maxRecDepth 100000
set_option maxHeartbeats 4000000
namespace K27
open G
variable {W : Nat}
variable {n : Nat} {M : Store}
theorem sIx_no {n d : Nat} : HT.sIx n d none = d := rfl
theorem sIx_nat {n d k : Nat} (h : k ≤ n) : HT.sIx n d (some (k : Int)) = k := by
  rw [HT.sIx_nat]; omega
theorem cut_to {xs : List D} {k : Nat} (h : k ≤ xs.length) : cutd xs none (some (k : Int)) = xs.take k := by
  unfold cutd
  rw [sIx_no, sIx_nat h]; simp
theorem cut_from {xs : List D} {k : Nat} (h : k ≤ xs.length) : cutd xs (some (k : Int)) none = xs.drop k := by
  unfold cutd
  rw [sIx_no, sIx_nat h, List.take_of_length_le]
  simp
theorem okd_q {rows : List Q} : (rows.map Q.l).all (okd 11) = true := by
  rw [List.all_map, List.all_eq_true]
  intro q _
  simp [Q.l, okd]
theorem sk_kept : PySem.PyData.strOk "kept" = true := by decide +kernel
theorem sk_late : PySem.PyData.strOk "late" = true := by decide +kernel
theorem sk_bad : PySem.PyData.strOk "bad" = true := by decide +kernel
theorem sk_job : PySem.PyData.strOk "job" = true := by decide +kernel
theorem sk_jobs : PySem.PyData.strOk "jobs" = true := by decide +kernel
theorem sk_stop : PySem.PyData.strOk "stop" = true := by decide +kernel
theorem sk_stops : PySem.PyData.strOk "stops" = true := by decide +kernel
theorem sk_many : PySem.PyData.strOk "many" = true := by decide +kernel
theorem sk_length : PySem.PyData.strOk "length" = true := by decide +kernel
theorem sk_sections : PySem.PyData.strOk "sections" = true := by decide +kernel
theorem sk_bench : PySem.PyData.strOk "bench" = true := by decide +kernel
theorem okd_rword {rows : List Q} {stops : List Int} : okd 12 (rword rows stops) = true := by
  rcases rword_form (rows := rows) (stops := stops) with e | ⟨a, b, c, e⟩ <;> rw [e] <;> simp [okd, sk_kept, sk_late]
theorem ne_tt {xs ys : List D} (hx : xs.all (okd 11) = true) (hy : ys.all (okd 11) = true) : cmpop .ne (.tup xs) (.tup ys) M = .ok (.bl (!eqds xs ys)) M := by
  rw [ne_dd (x := .tup xs) (y := .tup ys) hx hy]
  simp [top, eqd]
theorem eq_tt {xs ys : List D} (hx : xs.all (okd 11) = true) (hy : ys.all (okd 11) = true) : cmpop .eq (.tup xs) (.tup ys) M = .ok (.bl (eqds xs ys)) M := by
  rw [eq_dd (x := .tup xs) (y := .tup ys) hx hy]
  simp [top, eqd]
theorem ne_ss {x y : PySem.Str} (hx : PySem.PyData.strOk x = true) (hy : PySem.PyData.strOk y = true) : cmpop .ne (.str x) (.str y) M = .ok (.bl (!(x == y))) M := by
  rw [ne_dd (x := .str x) (y := .str y) hx hy]
  simp [top, eqd]
theorem top_tup {xs : List D} : top M (.tup xs) = .tup xs := rfl
theorem top_lst {xs : List D} : top M (.lst xs) = .lst xs := rfl
theorem top_rword {rows : List Q} {stops : List Int} : top M (rword rows stops) = rword rows stops := by
  rcases rword_form (rows := rows) (stops := stops) with e | ⟨a, b, c, e⟩ <;> rw [e] <;> rfl
theorem isTy_rword {rows : List Q} {stops : List Int} : isTy M .tuple (rword rows stops) = some true := by
  rcases rword_form (rows := rows) (stops := stops) with e | ⟨a, b, c, e⟩ <;> rw [e] <;> simp
/-- rows with one exchanged -/
def spoil (rows : List Q) (k : Nat) (w : Q) : List Q := rows.take k ++ w :: rows.drop (k + 1)
theorem spoil_len {rows : List Q} {k : Nat} {w : Q} (h : k < rows.length) : (spoil rows k w).length = rows.length := by
  simp [spoil]; omega
theorem spoil_get {rows : List Q} {k : Nat} {w : Q} (h : k < rows.length) : (spoil rows k w)[k]? = some w := by
  unfold spoil
  rw [List.getElem?_append_right (by simp; omega)]
  simp [Nat.min_eq_left (Nat.le_of_lt h)]
theorem spoil_lo {rows : List Q} {k j : Nat} {w q : Q} (h : k < rows.length) (hj : j < k) (e : (spoil rows k w)[j]? = some q) : q ∈ rows := by
  unfold spoil at e
  rw [List.getElem?_append_left (by simp; omega)] at e
  exact List.mem_of_mem_take (List.mem_of_getElem? e)
theorem spoil_mem {rows : List Q} {k : Nat} {w q : Q} (e : q ∈ spoil rows k w) : q ∈ rows ∨ q = w := by
  unfold spoil at e
  rcases List.mem_append.mp e with e | e
  · exact .inl (List.mem_of_mem_take e)
  · rcases List.mem_cons.mp e with e | e
    · exact .inr e
    · exact .inl (List.mem_of_mem_drop e)
theorem released_right (p : Int × Int × Int) (stops : List Int) (unit : Int) (hl : stops.length ≤ 2) (hv : ∀ v ∈ stops, 1 ≤ v ∧ v ≤ 5) (hu : 1 ≤ unit ∧ unit ≤ 30000) (hW : 100000 < W) : ∃ p', callF P W (n + 6) 21 [.ptr 0, .lst (il stops), .int unit] [pu p] = .ok (.bl true) [pu p'] := by
  rw [callF_eq (k := f21) rfl rfl]
  have hsum := sum_bd (a := 1) (b := 5) hv
  have hst : StOk stops := ⟨by omega, fun v hm => ⟨(hv v hm).1, by have := (hv v hm).2; omega⟩⟩
  obtain ⟨kept, drawn, late, p1, hC, e1⟩ := releases (W := W) (n := n + 3) p stops unit (by omega) (by omega) hu hW
  have hk1 : ∀ q ∈ kept, QOk q := fun q h => ⟨(hC.k1 q h).1, (hC.k1 q h).2.1, (hC.k1 q h).2.2.1, (hC.k1 q h).2.2.2.1, (hC.k1 q h).2.2.2.2.1, (hC.k1 q h).2.2.2.2.2⟩
  have hk2 : ∀ q ∈ drawn, QOk q := fun q h => ⟨(hC.k2 q h).1, (hC.k2 q h).2.1, (hC.k2 q h).2.2.1, (hC.k2 q h).2.2.2.1, (hC.k2 q h).2.2.2.2.1, (hC.k2 q h).2.2.2.2.2⟩
  have hk3 : ∀ q ∈ late, QOk q := fun q h => ⟨(hC.k3 q h).1, (hC.k3 q h).2.1, (hC.k3 q h).2.2.1, (hC.k3 q h).2.2.2.1, (hC.k3 q h).2.2.2.2.1, (hC.k3 q h).2.2.2.2.2⟩
  have hw1 := rword_kept (stops := stops) hk1 hC.kept
  obtain ⟨x, y, z, hw3⟩ := rword_late (stops := stops) hk3 hC.late
  have l1 := hC.l1
  have l2 := hC.l2
  have l3 := hC.l3
  have hr1 := fun M => law_released (W := W) (n := n + 4) (M := M) kept stops (by omega) (by omega)
  have hr3 := fun M => law_released (W := W) (n := n + 4) (M := M) late stops (by omega) (by omega)
  simp only [hw1] at hr1
  simp only [hw3] at hr3
  have suf : Rt (runSs P W (callF P W (n + 5)) f21.body [some (.ptr 0), some (.lst (il stops)), some (.int unit), none, none, none, none, none, none, none, none, none, none, none] [pu p]) (fun d M' => d = .bl true ∧ ∃ p', M' = [pu p']) := by
    simp only [f21, b21, rSs_cons, rSs_nil]
    let cs : List (List Q) := [kept, drawn, late]
    have hcs : cs.map (fun l => D.lst (l.map Q.l)) = [.lst (kept.map Q.l), .lst (drawn.map Q.l), .lst (late.map Q.l)] := rfl
    refine Rt.step [some (.ptr 0), some (.lst (il stops)), some (.int unit), some (.lst (cs.map fun l => D.lst (l.map Q.l))), none, none, none, none, none, none, none, none, none, none] [pu p1] (by simp [e1, hcs]) ?_
    refine Rt.step [some (.ptr 0), some (.lst (il stops)), some (.int unit), some (.lst (cs.map fun l => D.lst (l.map Q.l))), none, none, none, none, none, none, none, none, none, none] [pu p1] (by
      have a0 : L2.atI (cs.map fun l => D.lst (l.map Q.l)) 0 = some (.lst (kept.map Q.l)) := rfl
      have a2 : L2.atI (cs.map fun l => D.lst (l.map Q.l)) 2 = some (.lst (late.map Q.l)) := rfl
      have a3 : L2.atI [D.str "late", D.int x, D.int y, D.int z] 0 = some (.str "late") := rfl
      generalize (cs.map fun l => D.lst (l.map Q.l)) = cd at a0 a2
      have n1 := ne_tt (M := [pu p1]) (xs := [.str "kept"]) (ys := [.str "kept"]) (by simp [okd, sk_kept]) (by simp [okd, sk_kept])
      have n2 := ne_ss (M := [pu p1]) sk_late sk_late
      simp [a0, a2, hr1, hr3, a3, n1, n2, eqds, eqd, big, PySem.sizeLine]) ?_
    refine Rt.then (I := fun ρ M => M = [pu p1] ∧ ∃ a b c d e f g h i j, ρ = [some (.ptr 0), some (.lst (il stops)), some (.int unit), some (.lst (cs.map fun l => D.lst (l.map Q.l))), a, b, c, d, e, f, g, h, i, j]) ?_ ?_
    · simp
      refine Nx.mono (forL_rel (l := cs) (g := fun l => D.lst (l.map Q.l)) (fun (_ : Unit) ρ M => M = [pu p1] ∧ ∃ a b c d e f g h i j, ρ = [some (.ptr 0), some (.lst (il stops)), some (.int unit), some (.lst (cs.map fun l => D.lst (l.map Q.l))), a, b, c, d, e, f, g, h, i, j]) (fun _ _ => ()) (s := ()) ⟨rfl, _, _, _, _, _, _, _, _, _, _, rfl⟩ ?_) fun ρ M h => h
      rintro rows hrows _ ρ M ⟨rfl, a, b, c, d, e, f, g, h, i, j, rfl⟩
      have hok : (∀ q ∈ rows, QOk q) ∧ rows.length ≤ 5 := by
        rcases List.mem_cons.mp hrows with rfl | hrows
        · exact ⟨hk1, l1⟩
        rcases List.mem_cons.mp hrows with rfl | hrows
        · exact ⟨hk2, l2⟩
        obtain rfl := List.mem_singleton.mp hrows
        exact ⟨hk3, l3⟩
      have ht := released_told (W := W) (n := n) (M := [pu p1]) rows stops (by omega) (by omega)
      rw [toldD_fine (by omega) hok.1 hst] at ht
      have hr := law_released (W := W) (n := n + 4) (M := [pu p1]) rows stops (by omega) (by omega)
      have n1 := ne_same (M := [pu p1]) (d := rword rows stops) (by rw [top_rword]; exact okd_rword)
      have n2 := ne_same (M := [pu p1]) (d := .lst (rows.map Q.l)) (by rw [top_lst, okd]; exact okd_q)
      exact ⟨_, _, by simp [foT_app, b21_1, ht, hr, n1, n2, isTy_rword]; exact ⟨rfl, rfl, rfl, rfl, rfl, rfl, rfl, rfl, rfl, rfl⟩, rfl, _, _, _, _, _, _, _, _, _, _, rfl⟩
    rintro ρ M ⟨rfl, a, b, c, d, e, f, g, h, i, j, rfl⟩
    refine Rt.step [some (.ptr 0), some (.lst (il stops)), some (.int unit), some (.lst (cs.map fun l => D.lst (l.map Q.l))), some (.lst (kept.map Q.l)), b, c, d, e, f, g, h, i, j] [pu p1] (by
      have a0 : L2.atI (cs.map fun l => D.lst (l.map Q.l)) 0 = some (.lst (kept.map Q.l)) := rfl
      simp [a0]) ?_
    have hkl : 0 < kept.length := by
      cases hkk : kept with
      | nil => exact absurd hkk hC.ne
      | cons a r => simp
    obtain ⟨at', p2, ha0, ha1, e2⟩ := draw (W := W) (n := n + 4) p1 kept.length (by omega) (by omega) []
    obtain ⟨k, rfl⟩ : ∃ k : Nat, at' = k := ⟨at'.toNat, by omega⟩
    have hk : k < kept.length := by omega
    refine Rt.step [some (.ptr 0), some (.lst (il stops)), some (.int unit), some (.lst (cs.map fun l => D.lst (l.map Q.l))), some (.lst (kept.map Q.l)), some (.int k), c, d, e, f, g, h, i, j] [pu p2] (by simp [e2]) ?_
    have hkq : L2.atI (kept.map Q.l) (k : Int) = some (.tup [.int kept[k].r, .int kept[k].h, .int kept[k].d]) := atI_nat (by simp [hk, Q.l])
    have hqk := hk1 _ (List.getElem_mem hk)
    generalize kept[k] = q at hkq hqk
    refine Rt.step [some (.ptr 0), some (.lst (il stops)), some (.int unit), some (.lst (cs.map fun l => D.lst (l.map Q.l))), some (.lst (kept.map Q.l)), some (.int k), c, d, e, f, g, some (.int q.r), some (.int q.h), some (.int q.d)] [pu p2] (by simp [hkq, bindG_t]) ?_
    obtain ⟨v, p3, hv0, hv1, e3⟩ := draw (W := W) (n := n + 4) p2 3 (by omega) (by omega) []
    have hb3 : (3 : Nat) ≤ big := by simp [big, PySem.sizeLine]
    have hb1 : (1 : Nat) ≤ big := by simp [big, PySem.sizeLine]
    have hb2 : (2 : Nat) ≤ big := by simp [big, PySem.sizeLine]
    have hb0 : (0 : Nat) ≤ big := by simp
    have hwr : ∃ w : Q, L2.atI [D.tup [D.int (-1), D.int q.h, D.int q.d], D.tup [D.int q.r, D.int 0, D.int q.d], D.tup [D.int q.r, D.int q.h, D.int 0]] v = some w.l ∧ relBad w = true ∧ w.r ≤ 1000000 ∧ w.h ≤ 1000000 ∧ w.d ≤ 1000000 := by
      have := hqk.r1
      have := hqk.h1
      have := hqk.d1
      have : v = 0 ∨ v = 1 ∨ v = 2 := by omega
      rcases this with rfl | rfl | rfl
      · exact ⟨⟨-1, q.h, q.d⟩, rfl, by simp [relBad], by dsimp only; omega⟩
      · exact ⟨⟨q.r, 0, q.d⟩, rfl, by simp [relBad], by dsimp only; omega⟩
      · exact ⟨⟨q.r, q.h, 0⟩, rfl, by simp [relBad], by dsimp only; omega⟩
    obtain ⟨w, hw, hwb, hwn⟩ := hwr
    refine Rt.step [some (.ptr 0), some (.lst (il stops)), some (.int unit), some (.lst (cs.map fun l => D.lst (l.map Q.l))), some (.lst (kept.map Q.l)), some (.int k), some w.l, d, e, f, g, some (.int q.r), some (.int q.h), some (.int q.d)] [pu p3] (by
      simp [e3, hb3]
      simp only [hw, onO_some, zwith_ok]) ?_
    let sp := spoil kept k w
    have hspl : sp.length = kept.length := spoil_len hk
    have hsp : ∀ q ∈ sp, q.r ≤ 1000000 ∧ q.h ≤ 1000000 ∧ q.d ≤ 1000000 := fun q hq => by
      rcases spoil_mem hq with hq | rfl
      · exact ⟨(hk1 q hq).r1, (hk1 q hq).h1, (hk1 q hq).d1⟩
      · exact hwn
    have hadd : ∀ {xs ys : List D}, xs.length ≤ 100 → ys.length ≤ 100 → ∀ M, binop .add (.lst xs) (.lst ys) M = .ok (.lst (xs ++ ys)) M := fun h1 h2 M => add_ll (by simp only [big, PySem.sizeLine]; omega)
    have hspD : (kept.map Q.l).take k ++ [w.l] ++ (kept.map Q.l).drop (k + 1) = sp.map Q.l := by simp [sp, spoil]
    refine Rt.step [some (.ptr 0), some (.lst (il stops)), some (.int unit), some (.lst (cs.map fun l => D.lst (l.map Q.l))), some (.lst (kept.map Q.l)), some (.int k), some w.l, some (.lst (sp.map Q.l)), e, f, g, some (.int q.r), some (.int q.h), some (.int q.d)] [pu p3] (by
      have c1 := cut_to (xs := kept.map Q.l) (k := k) (by simp; omega)
      have c2 := cut_from (xs := kept.map Q.l) (k := k + 1) (by simp; omega)
      have c2' : cutd (kept.map Q.l) (some ((k : Int) + 1)) none = (kept.map Q.l).drop (k + 1) := c2
      have h1 := hadd (xs := (kept.map Q.l).take k) (ys := [w.l]) (by simp; omega) (by simp) [pu p3]
      have h2 := hadd (xs := (kept.map Q.l).take k ++ [w.l]) (ys := (kept.map Q.l).drop (k + 1)) (by simp; omega) (by simp; omega) [pu p3]
      rw [hspD] at h2
      simp only [rS_asg, rE_bin, rE_sl, rO_no, rO_so, rE_lst, rA_cons, rA_nil, rE_v, rE_int, List.getElem?_cons_zero, List.getElem?_cons_succ, onV_some, zbind_ok, onI_int, sld_lst, add_ii, c1, c2', List.length_cons, List.length_nil, hb1, if_true, newL_f, h1, h2, zwith_ok]
      simp [h1, h2, hb1]) ?_
    have hst0 : ∀ M, binop .add (.lst (il stops)) (.lst [.int 0]) M = .ok (.lst (il (stops ++ [0]))) M := fun M => by
      rw [hadd (by simp; omega) (by simp)]; simp [il]
    have t1 := released_told (W := W) (n := n) (M := [pu p3]) sp (stops ++ [0]) (by omega) (by simp; omega)
    rw [told_job hst (by omega) hsp (spoil_get hk) hwb fun j hj q e => hk1 _ (spoil_lo hk hj e)] at t1
    have t2 := released_told (W := W) (n := n) (M := [pu p3]) kept (stops ++ [0]) (by omega) (by simp; omega)
    rw [told_stop hst (by omega) hk1] at t2
    have q1 : cmpop .ne (.tup [.str "bad", .str "job", .int k]) (.tup [.str "bad", .str "job", .int k]) [pu p3] = .ok (.bl false) [pu p3] := ne_same (by simp [top_tup, okd, sk_bad, sk_job])
    have q2 : cmpop .ne (.tup [.str "bad", .str "stop", .int stops.length]) (.tup [.str "bad", .str "stop", .int stops.length]) [pu p3] = .ok (.bl false) [pu p3] := ne_same (by simp [top_tup, okd, sk_bad, sk_stop])
    have q3 : cmpop .ne (.tup [.str "many", .str "jobs"]) (.tup [.str "many", .str "jobs"]) [pu p3] = .ok (.bl false) [pu p3] := ne_same (by simp [top_tup, okd, sk_many, sk_jobs])
    have q4 : cmpop .ne (.tup [.str "many", .str "stops"]) (.tup [.str "many", .str "stops"]) [pu p3] = .ok (.bl false) [pu p3] := ne_same (by simp [top_tup, okd, sk_many, sk_stops])
    refine Rt.step [some (.ptr 0), some (.lst (il stops)), some (.int unit), some (.lst (cs.map fun l => D.lst (l.map Q.l))), some (.lst (kept.map Q.l)), some (.int k), some w.l, some (.lst (sp.map Q.l)), e, f, g, some (.int q.r), some (.int q.h), some (.int q.d)] [pu p3] (by
      simp only [rS_ite, rT_cmp, rE_call, rE_bin, rE_lst, rE_tup, rE_str, rA_cons, rA_nil, rE_v, rE_int, List.getElem?_cons_zero, List.getElem?_cons_succ, onV_some, zbind_ok, List.length_cons, List.length_nil, hb1, if_true, newL_f, hst0, t1, hb3, q1, onB_bl, zwith_ok]
      simp [hst0, t1, hb3, hb1, q1]) ?_
    refine Rt.step [some (.ptr 0), some (.lst (il stops)), some (.int unit), some (.lst (cs.map fun l => D.lst (l.map Q.l))), some (.lst (kept.map Q.l)), some (.int k), some w.l, some (.lst (sp.map Q.l)), e, f, g, some (.int q.r), some (.int q.h), some (.int q.d)] [pu p3] (by
      simp only [rS_ite, rT_cmp, rE_call, rE_bin, rE_lst, rE_tup, rE_str, rA_cons, rA_nil, rE_v, rE_int, rE_bi, bi_len, seqOf_lst, onO_some, List.length_map, List.getElem?_cons_zero, List.getElem?_cons_succ, onV_some, zbind_ok, List.length_cons, List.length_nil, hb1, if_true, newL_f, hst0, t2, hb3, q2, onB_bl, zwith_ok]
      simp [hst0, t2, hb3, hb1, q2]) ?_
    have t3 := released_told (W := W) (n := n) (M := [pu p3]) (List.replicate 13 ⟨0, 1, 9⟩) [0] (by simp) (by simp)
    rw [told_jobs (by simp)] at t3
    have t4 := released_told (W := W) (n := n) (M := [pu p3]) sp (List.replicate 9 1) (by omega) (by simp)
    rw [told_stops (by omega) hsp (by simp) (by simp)] at t4
    have m1 : ∀ M, binop .mul (.lst [.tup [.int 0, .int 1, .int 9]]) (.int 13) M = .ok (.lst ((List.replicate 13 (⟨0, 1, 9⟩ : Q)).map Q.l)) M := fun M => mul_li (by simp [big, PySem.sizeLine])
    have m2 : ∀ M, binop .mul (.lst [.int 1]) (.int 9) M = .ok (.lst (il (List.replicate 9 1))) M := fun M => mul_li (by simp [big, PySem.sizeLine])
    refine Rt.step [some (.ptr 0), some (.lst (il stops)), some (.int unit), some (.lst (cs.map fun l => D.lst (l.map Q.l))), some (.lst (kept.map Q.l)), some (.int k), some w.l, some (.lst (sp.map Q.l)), e, f, g, some (.int q.r), some (.int q.h), some (.int q.d)] [pu p3] (by
      have t3' : callF P W (n + 5) 19 [.lst ((List.replicate 13 (⟨0, 1, 9⟩ : Q)).map Q.l), .lst [.int 0]] [pu p3] = _ := t3
      simp only [rS_ite, rT_or, rTo_2, rTo_1, rT_cmp, rE_call, rE_bin, rE_lst, rE_tup, rE_str, rA_cons, rA_nil, rE_v, rE_int, List.getElem?_cons_zero, List.getElem?_cons_succ, onV_some, zbind_ok, List.length_cons, List.length_nil, hb1, hb2, hb3, if_true, newL_f, m1, m2, t3', t4, q3, q4, onB_bl, zwith_ok, Nat.zero_add, Nat.reduceAdd, Bool.false_eq_true, if_false, rSs_nil]) ?_
    obtain ⟨v2, p4, hv20, hv21, e4⟩ := draw (W := W) (n := n + 4) p3 3 (by omega) (by omega) []
    have hgr : ∃ w : Q, L2.atI [D.tup [D.int 1000001, D.int 1, D.int 5], D.tup [D.int 0, D.int 1000001, D.int 5], D.tup [D.int 0, D.int 1, D.int 1000001]] v2 = some w.l ∧ (1000000 < w.r ∨ 1000000 < w.h ∨ 1000000 < w.d) := by
      have : v2 = 0 ∨ v2 = 1 ∨ v2 = 2 := by omega
      rcases this with rfl | rfl | rfl
      · exact ⟨⟨1000001, 1, 5⟩, rfl, by simp⟩
      · exact ⟨⟨0, 1000001, 5⟩, rfl, by simp⟩
      · exact ⟨⟨0, 1, 1000001⟩, rfl, by simp⟩
    obtain ⟨w2, hw2, hwb2⟩ := hgr
    refine Rt.step [some (.ptr 0), some (.lst (il stops)), some (.int unit), some (.lst (cs.map fun l => D.lst (l.map Q.l))), some (.lst (kept.map Q.l)), some (.int k), some w.l, some (.lst (sp.map Q.l)), some w2.l, f, g, some (.int q.r), some (.int q.h), some (.int q.d)] [pu p4] (by
      simp [e4, hb3, hw2]) ?_
    have t5 := released_told (W := W) (n := n) (M := [pu p4]) (sp ++ [w2]) [] (by simp; omega) (by simp)
    rw [told_len (by omega) hsp hwb2] at t5
    have q5 : cmpop .eq (.tup [.str "many", .str "length"]) (.tup [.str "many", .str "length"]) [pu p4] = .ok (.bl true) [pu p4] := eq_same (by simp [top_tup, okd, sk_many, sk_length])
    have h5 := hadd (xs := sp.map Q.l) (ys := [w2.l]) (by simp; omega) (by simp) [pu p4]
    have e5 : sp.map Q.l ++ [w2.l] = (sp ++ [w2]).map Q.l := by simp
    rw [e5] at h5
    have il0 : ([] : List D) = il [] := rfl
    have t5' : callF P W (n + 5) 19 [D.lst ((sp ++ [w2]).map Q.l), D.lst []] [pu p4] = _ := t5
    refine Rt.of (.bl true) [pu p4] (by
      simp only [rS_ret, rE_cmp, rE_call, rE_bin, rE_lst, rE_tup, rE_str, rA_cons, rA_nil, rE_v, rE_int, List.getElem?_cons_zero, List.getElem?_cons_succ, onV_some, zbind_ok, List.length_cons, List.length_nil, hb0, hb1, hb2, hb3, if_true, newL_f, h5, Nat.zero_add, Nat.reduceAdd, t5', q5, zwith_ok]) ⟨rfl, p4, rfl⟩
  obtain ⟨d, M', e, rfl, p', rfl⟩ := suf
  refine ⟨p', ?_⟩
  have e' : (List.map some [D.ptr 0, D.lst (il stops), D.int unit] ++ List.replicate (f21.names.length - f21.np) none) = [some (.ptr 0), some (.lst (il stops)), some (.int unit), none, none, none, none, none, none, none, none, none, none, none] := rfl
  rw [e', e]
  exact finish_rt_same rfl
end K27

/-! X27 -/
set_option maxRecDepth 100000
set_option maxHeartbeats 4000000
namespace K27
open G
variable {W : Nat}
variable {n : Nat} {M : Store}
theorem perm_unmap {α β : Type} {f : α → β} {ys zs : List β} (h : ys.Perm zs) : ∀ l : List α, zs = l.map f → ∃ l' : List α, ys = l'.map f ∧ l'.Perm l := by
  induction h with
  | nil => intro l e; exact ⟨[], rfl, by cases l with | nil => exact .nil | cons a r => simp at e⟩
  | cons x _ ih =>
    intro l e
    cases l with
    | nil => simp at e
    | cons a r =>
      simp at e
      obtain ⟨l', rfl, hp⟩ := ih r e.2
      exact ⟨a :: l', by simp [e.1], .cons a hp⟩
  | swap x y t =>
    intro l e
    match l, e with
    | a :: b :: r, e =>
      simp at e
      exact ⟨b :: a :: r, by simp [e.1, e.2.1, e.2.2], .swap _ _ _⟩
  | trans _ _ ih1 ih2 =>
    intro l e
    obtain ⟨l2, e2, p2⟩ := ih2 l e
    obtain ⟨l1, e1, p1⟩ := ih1 l2 e2
    exact ⟨l1, e1, p1.trans p2⟩
/-- a job scaled -/
def sc (unit : Int) (j : J) : J := ⟨unit * j.s, j.x.map (unit * ·), 1⟩
def J.tb (j : J) : D := .tup [.int j.s, .lst (il j.x)]
instance : Inhabited J := ⟨⟨0, [], 0⟩⟩
/-- the need of the first jobs -/
def N (sj : List J) (stops : List Int) (i : Nat) : Int := need (sj.take (i + 1)) stops 1
def DueOk (sj : List J) (stops : List Int) (unit : Int) (t i : Nat) (d : Int) : Prop := ∃ e, 0 ≤ e ∧ e < 3 * unit ∧ (i = t → e = 0) ∧ d = if i < t then min (N sj stops i + e) (N sj stops t) else N sj stops i + e
def keptOf (sj : List J) (dues : List Int) (i : Nat) : J := ⟨(sj.getD i default).s, (sj.getD i default).x, dues.getD i 0⟩
def lateOf (sj : List J) (stops : List Int) (t : Nat) (dues : List Int) (i : Nat) : J := ⟨(sj.getD i default).s, (sj.getD i default).x, if i ≤ t then min (dues.getD i 0) (N sj stops t - 1) else dues.getD i 0⟩
theorem min_if {i j : Int} : (if j < i then j else i) = min i j := by omega
theorem dued (p : Int × Int × Int) (jobs : List J) (stops : List Int) (unit : Int) (hj : ∀ j ∈ jobs, j.x ≠ [] ∧ j.x.length ≤ 100) (hn : jobs ≠ []) (hl : jobs.length ≤ 100) (hs : stops.length ≤ 100) (hu : 1 ≤ unit ∧ unit ≤ 1000000) :
    ∃ (t : Nat) (dues : List Int) (ord : List Nat) (p' : Int × Int × Int), t < jobs.length ∧ dues.length = jobs.length ∧ (∀ i, i < jobs.length → DueOk (jobs.map (sc unit)) stops unit t i (dues.getD i 0)) ∧ ord.Perm (List.range jobs.length) ∧
      callF P W (n + 3) 12 [.ptr 0, .lst (jobs.map J.b), .lst (il stops), .int unit] [pu p] = .ok (.lst [.lst ((ord.map (keptOf (jobs.map (sc unit)) dues)).map J.l), .lst ((ord.map (lateOf (jobs.map (sc unit)) stops t dues)).map J.l)]) [pu p'] := by
  rw [callF_eq (k := f12) rfl rfl]
  have hlen : jobs.length = (jobs.map (sc unit)).length := by simp
  have hpos : 0 < jobs.length := by
    cases jobs with
    | nil => exact absurd rfl hn
    | cons a r => simp
  suffices suf : ∃ (t : Nat) (dues : List Int) (ord : List Nat), t < jobs.length ∧ dues.length = jobs.length ∧ (∀ i, i < jobs.length → DueOk (jobs.map (sc unit)) stops unit t i (dues.getD i 0)) ∧ ord.Perm (List.range jobs.length) ∧ Rt (runSs P W (callF P W (n + 2)) f12.body [some (.ptr 0), some (.lst (jobs.map J.b)), some (.lst (il stops)), some (.int unit), none, none, none, none, none, none, none, none, none, none, none] [pu p]) (fun d M' => d = .lst [.lst ((ord.map (keptOf (jobs.map (sc unit)) dues)).map J.l), .lst ((ord.map (lateOf (jobs.map (sc unit)) stops t dues)).map J.l)] ∧ ∃ p' R, M' = pu p' :: R) by
    obtain ⟨t, dues, ord, h1, h2, h3, h4, d, M', e, rfl, p', R, rfl⟩ := suf
    refine ⟨t, dues, ord, p', h1, h2, h3, h4, ?_⟩
    have e' : (List.map some [D.ptr 0, .lst (jobs.map J.b), .lst (il stops), .int unit] ++ List.replicate (f12.names.length - f12.np) none) = [some (.ptr 0), some (.lst (jobs.map J.b)), some (.lst (il stops)), some (.int unit), none, none, none, none, none, none, none, none, none, none, none] := rfl
    rw [e', e]
    refine finish_rt_cut2 (N := [pu p']) (R := R) rfl rfl ?_ ?_
    · simp only [underD, underDs, underDs_iff, Bool.and_eq_true, Bool.and_true, and_true]
      refine ⟨?_, ?_⟩ <;>
      · intro x hx
        obtain ⟨j, _, rfl⟩ := List.mem_map.mp hx
        simp [J.l, underD, underDs, underDs_iff]
    · simp [underO, underDs, underD]
  let sj := jobs.map (sc unit)
  have hsl : sj.length = jobs.length := by simp [sj]
  have hsd : ∀ j ∈ sj, j.d = 1 := by
    intro j hj'
    obtain ⟨j0, _, rfl⟩ := List.mem_map.mp hj'
    rfl
  have hsx : ∀ j ∈ sj, j.x ≠ [] := by
    intro j hj'
    obtain ⟨j0, h0, rfl⟩ := List.mem_map.mp hj'
    simpa [sc] using (hj j0 h0).1
  have hb2 : (2 : Nat) ≤ big := by simp [big, PySem.sizeLine]
  have hb3 : (3 : Nat) ≤ big := by simp [big, PySem.sizeLine]
  have hmul : ∀ v M, binop .mul (.int unit) (.int v) M = .ok (.int (unit * v)) M := fun v M => mul_ii (.inl ⟨by omega, by omega⟩)
  have hx1 : ∀ a b : D, L2.atI [a, b] 1 = some b := fun _ _ => rfl
  have c0 := lcA_map (l := jobs) (acc := []) (f := lcT P W (callF P W (n + 2)) [some (.ptr 0), some (.lst (jobs.map J.b)), some (.lst (il stops)), some (.int unit), none, none, none, none, none, none, none, none, none, none, none] (.n 13) .nil (.tup (.cons (.bin .mul (.v 3) (.ix (.v 13) (.int 0))) (.cons (.lc false (.n 14) (.val (.ix (.v 13) (.int 1))) .nil (.bin .mul (.v 3) (.v 14))) .nil)))) (g := J.b) (k := fun j => (sc unit j).tb) (M := [pu p]) (fun j hjm => by
    have ci := lcA_map (l := j.x) (acc := []) (f := lcT P W (callF P W (n + 2)) [some (.ptr 0), some (.lst (jobs.map J.b)), some (.lst (il stops)), some (.int unit), none, none, none, none, none, none, none, none, none, some (.lst [.int j.s, .lst (il j.x)]), none] (.n 14) .nil (.bin .mul (.v 3) (.v 14))) (g := D.int) (k := fun v => D.int (unit * v)) (M := [pu p]) (fun v _ => by simp [lcT_app, gslots, wipeR, hmul]) (by have := (hj j hjm).2; simp [big, PySem.sizeLine]; omega)
    rw [List.nil_append] at ci
    simp [lcT_app, gslots, wipeR, J.b, atI_zero, hx1, hmul]
    simp only [ci, zbind_ok]
    simp [hb2, J.tb, sc]) (by simp [big, PySem.sizeLine]; omega)
  have l1 := forL_inv (l := List.range jobs.length) (g := fun (i : Nat) => D.int (i : Int)) (f := foT P W (callF P W (n + 2)) (.n 6) b12_3) (fun i ρ M => M = [pu p, .lst (il ((List.range i).map (N sj stops)))] ∧ ∃ a, ρ = [some (.ptr 0), some (.lst (jobs.map J.b)), some (.lst (il stops)), some (.int unit), some (.lst (sj.map J.tb)), some (.ptr 1), a, none, none, none, none, none, none, none, none]) (ρ := [some (.ptr 0), some (.lst (jobs.map J.b)), some (.lst (il stops)), some (.int unit), some (.lst (sj.map J.tb)), some (.ptr 1), none, none, none, none, none, none, none, none, none]) (M := [pu p, .lst []]) ⟨rfl, none, rfl⟩ (by
    rintro i a ρ M hi ⟨rfl, a', rfl⟩
    obtain ⟨hi, rfl⟩ := range_get hi
    have ct : cutd (sj.map J.tb) none (some ((a : Int) + 1)) = (sj.take (a + 1)).map J.tb := by
      rw [show (a : Int) + 1 = ((a + 1 : Nat) : Int) from rfl, cut_to (by simp; omega), List.map_take]
    have ci := lcA_map (l := sj.take (a + 1)) (acc := []) (f := lcT P W (callF P W (n + 2)) [some (.ptr 0), some (.lst (jobs.map J.b)), some (.lst (il stops)), some (.int unit), some (.lst (sj.map J.tb)), some (.ptr 1), some (.int a), none, none, none, none, none, none, none, none] (.n 13) .nil (.tup (.cons (.ix (.v 13) (.int 0)) (.cons (.ix (.v 13) (.int 1)) (.cons (.int 1) .nil))))) (g := J.tb) (k := J.l) (M := [pu p, .lst (il ((List.range a).map (N sj stops)))]) (fun j hjm => by
      have := hsd j (List.mem_of_mem_take hjm)
      simp [lcT_app, gslots, wipeR, J.tb, atI_zero, hx1, hb3, J.l, this]) (by simp [big, PySem.sizeLine]; omega)
    rw [List.nil_append] at ci
    have hn9 := law_need (W := W) (n := n + 1) (M := [pu p, .lst (il ((List.range a).map (N sj stops)))]) (sj.take (a + 1)) stops 1 (fun j h => hsx j (List.mem_of_mem_take h)) (by omega)
    have hbl : a < big := by simp [big, PySem.sizeLine]; omega
    have hLN : il ((List.range (a + 1)).map (N sj stops)) = il ((List.range a).map (N sj stops)) ++ [.int (need (sj.take (a + 1)) stops 1)] := by simp [List.range_succ, N]
    refine Nx.of [some (.ptr 0), some (.lst (jobs.map J.b)), some (.lst (il stops)), some (.int unit), some (.lst (sj.map J.tb)), some (.ptr 1), some (.int a), none, none, none, none, none, none, none, none] [pu p, .lst (il ((List.range (a + 1)).map (N sj stops)))] ?_ ⟨rfl, _, rfl⟩
    rw [hLN]
    have hLl : (il ((List.range a).map (N sj stops))).length = a := by simp
    generalize il ((List.range a).map (N sj stops)) = L at ci hn9 hLl
    generalize (sj.take (a + 1)).map J.tb = T at ci ct
    generalize (sj.take (a + 1)).map J.l = JL at ci hn9
    simp [foT_app, b12_3, ct, ci, hn9, hbl, hLl])
  obtain ⟨ρ1, M1, e1, rfl, a1, rfl⟩ := l1
  simp only [List.length_range] at e1
  obtain ⟨t', p1, ht0, ht1, et⟩ := draw (W := W) (n := n + 1) p jobs.length (by omega) (by omega) [.lst (il ((List.range jobs.length).map (N sj stops)))]
  obtain ⟨t, rfl⟩ : ∃ t : Nat, t' = t := ⟨t'.toNat, by omega⟩
  have ht : t < jobs.length := by omega
  have hNi : ∀ i, i < jobs.length → L2.atI (il ((List.range jobs.length).map (N sj stops))) (i : Int) = some (.int (N sj stops i)) := fun i hi => il_get (by simp [hi])
  have hix : ∀ M, binop .mul (.int 3) (.int unit) M = .ok (.int (3 * unit)) M := fun M => mul_ii (.inl ⟨by omega, by omega⟩)
  have l2 := forL_inv (l := List.range jobs.length) (g := fun (i : Nat) => D.int (i : Int)) (f := foT P W (callF P W (n + 2)) (.n 6) b12_2) (fun i ρ M => ∃ (p : Int × Int × Int) (dues : List Int), dues.length = i ∧ (∀ j, j < i → DueOk sj stops unit t j (dues.getD j 0)) ∧ M = [pu p, .lst (il ((List.range jobs.length).map (N sj stops))), .lst (il dues)] ∧ ∃ a b, ρ = [some (.ptr 0), some (.lst (jobs.map J.b)), some (.lst (il stops)), some (.int unit), some (.lst (sj.map J.tb)), some (.ptr 1), a, some (.int t), some (.ptr 2), none, none, none, b, none, none]) (ρ := [some (.ptr 0), some (.lst (jobs.map J.b)), some (.lst (il stops)), some (.int unit), some (.lst (sj.map J.tb)), some (.ptr 1), a1, some (.int t), some (.ptr 2), none, none, none, none, none, none]) (M := [pu p1, .lst (il ((List.range jobs.length).map (N sj stops))), .lst []]) ⟨p1, [], rfl, by simp, rfl, _, _, rfl⟩ (by
    rintro i a ρ M hi ⟨p, dues, hdl, hdo, rfl, a', b', rfl⟩
    obtain ⟨hi, rfl⟩ := range_get hi
    have hbl : dues.length < big := by simp [big, PySem.sizeLine]; omega
    have hget : ∀ v, (dues ++ [v]).getD a 0 = v := fun v => by rw [← hdl]; simp
    have hlow : ∀ v j, j < a → (dues ++ [v]).getD j 0 = dues.getD j 0 := fun v j hj => by simp [List.getD, List.getElem?_append, hdl, hj]
    have hdo' : ∀ v, DueOk sj stops unit t a v → ∀ j, j < a + 1 → DueOk sj stops unit t j ((dues ++ [v]).getD j 0) := fun v hv j hj => by
      by_cases e : j = a
      · subst e; rw [hget]; exact hv
      · rw [hlow v j (by omega)]; exact hdo j (by omega)
    have hNa := hNi a hi
    have hNt := hNi t ht
    have hap : ∀ v, il (dues ++ [v]) = il dues ++ [.int v] := fun v => by simp
    have hdl' : (il dues).length = a := by simp [hdl]
    have ea : ∀ x : Int, (a < t ∨ ¬ a < t) := fun _ => by omega
    generalize il ((List.range jobs.length).map (N sj stops)) = L at hNa hNt ⊢
    generalize hLd : il dues = Ld at hap hdl'
    by_cases e : a = t
    · subst e
      refine Nx.of [some (.ptr 0), some (.lst (jobs.map J.b)), some (.lst (il stops)), some (.int unit), some (.lst (sj.map J.tb)), some (.ptr 1), some (.int a), some (.int a), some (.ptr 2), none, none, none, some (.int (N sj stops a)), none, none] [pu p, .lst L, .lst (il (dues ++ [N sj stops a]))] ?_ ⟨p, dues ++ [N sj stops a], by simp [hdl], hdo' _ ⟨0, by omega, by omega, fun _ => rfl, by simp⟩, rfl, _, _, rfl⟩
      rw [hap]
      simp [foT_app, b12_2, hNa, hdl', show a < big from by omega]
    · obtain ⟨v, p', h0, h1, ev⟩ := draw (W := W) (n := n + 1) p (3 * unit) (by omega) (by omega) [.lst L, .lst Ld]
      have e' : ¬ (a : Int) = (t : Int) := by omega
      by_cases hlt : a < t
      · refine Nx.of [some (.ptr 0), some (.lst (jobs.map J.b)), some (.lst (il stops)), some (.int unit), some (.lst (sj.map J.tb)), some (.ptr 1), some (.int a), some (.int t), some (.ptr 2), none, none, none, some (.int (N sj stops a + v)), none, none] [pu p', .lst L, .lst (il (dues ++ [min (N sj stops a + v) (N sj stops t)]))] ?_ ⟨p', dues ++ [min (N sj stops a + v) (N sj stops t)], by simp [hdl], hdo' _ ⟨v, h0, h1, fun h => absurd h e, by simp [hlt]⟩, rfl, _, _, rfl⟩
        rw [hap]
        simp [foT_app, b12_2, hNa, hNt, hdl', show a < big from by omega, e', hix, ev, hlt, min_if]
      · refine Nx.of [some (.ptr 0), some (.lst (jobs.map J.b)), some (.lst (il stops)), some (.int unit), some (.lst (sj.map J.tb)), some (.ptr 1), some (.int a), some (.int t), some (.ptr 2), none, none, none, some (.int (N sj stops a + v)), none, none] [pu p', .lst L, .lst (il (dues ++ [N sj stops a + v]))] ?_ ⟨p', dues ++ [N sj stops a + v], by simp [hdl], hdo' _ ⟨v, h0, h1, fun h => absurd h e, by simp [hlt]⟩, rfl, _, _, rfl⟩
        rw [hap]
        simp [foT_app, b12_2, hNa, hNt, hdl', show a < big from by omega, e', hix, ev, hlt])
  obtain ⟨ρ2, M2, e2, p2, dues, hdl, hdo, rfl, a2, b2, rfl⟩ := l2
  simp only [List.length_range] at hdl hdo
  have hgd : ∀ i, i < jobs.length → L2.atI (il dues) (i : Int) = some (.int (dues.getD i 0)) := fun i hi => il_get (by rw [List.getD, List.getElem?_eq_getElem (by omega)]; rfl)
  have hgb : ∀ i, i < jobs.length → L2.atI (sj.map J.tb) (i : Int) = some (.tup [.int (sj.getD i default).s, .lst (il (sj.getD i default).x)]) := fun i hi => atI_nat (by rw [List.getElem?_map, List.getD, List.getElem?_eq_getElem (by omega)]; rfl)
  have l3 := forL_inv (l := List.range jobs.length) (g := fun (i : Nat) => D.int (i : Int)) (f := foT P W (callF P W (n + 2)) (.n 6) b12_1) (fun i ρ M => M = [pu p2, .lst (il ((List.range jobs.length).map (N sj stops))), .lst (il dues), .lst (((List.range i).map (lateOf sj stops t dues)).map J.l)] ∧ ∃ a b, ρ = [some (.ptr 0), some (.lst (jobs.map J.b)), some (.lst (il stops)), some (.int unit), some (.lst (sj.map J.tb)), some (.ptr 1), a, some (.int t), some (.ptr 2), some (.lst ((List.range jobs.length).map fun i => (keptOf sj dues i).l)), some (.ptr 3), none, b, none, none]) (ρ := [some (.ptr 0), some (.lst (jobs.map J.b)), some (.lst (il stops)), some (.int unit), some (.lst (sj.map J.tb)), some (.ptr 1), a2, some (.int t), some (.ptr 2), some (.lst ((List.range jobs.length).map fun i => (keptOf sj dues i).l)), some (.ptr 3), none, b2, none, none]) (M := [pu p2, .lst (il ((List.range jobs.length).map (N sj stops))), .lst (il dues), .lst []]) ⟨rfl, _, _, rfl⟩ (by
    rintro i a ρ M hi ⟨rfl, a', b', rfl⟩
    obtain ⟨hi, rfl⟩ := range_get hi
    have hap : (((List.range (a + 1)).map (lateOf sj stops t dues)).map J.l) = (((List.range a).map (lateOf sj stops t dues)).map J.l) ++ [(lateOf sj stops t dues a).l] := by simp [List.range_succ]
    refine Nx.of [some (.ptr 0), some (.lst (jobs.map J.b)), some (.lst (il stops)), some (.int unit), some (.lst (sj.map J.tb)), some (.ptr 1), some (.int a), some (.int t), some (.ptr 2), some (.lst ((List.range jobs.length).map fun i => (keptOf sj dues i).l)), some (.ptr 3), none, some (.int (if a ≤ t then min (dues.getD a 0) (N sj stops t - 1) else dues.getD a 0)), none, none] [pu p2, .lst (il ((List.range jobs.length).map (N sj stops))), .lst (il dues), .lst (((List.range (a + 1)).map (lateOf sj stops t dues)).map J.l)] ?_ ⟨rfl, _, _, rfl⟩
    rw [hap]
    have hll : (((List.range a).map (lateOf sj stops t dues)).map J.l).length = a := by simp
    have hNt := hNi t ht
    have hda := hgd a hi
    have hba := hgb a hi
    generalize ((List.range a).map (lateOf sj stops t dues)).map J.l = LL at hll
    generalize il ((List.range jobs.length).map (N sj stops)) = L at hNt
    generalize il dues = Ld at hda
    generalize sj.map J.tb = SB at hba
    have hbl : a < big := by simp [big, PySem.sizeLine]; omega
    by_cases h : a ≤ t
    · simp [foT_app, b12_1, hNt, hda, hba, hll, hbl, hb3, h, atI_zero, hx1, min_if, J.l, lateOf]
    · simp [foT_app, b12_1, hNt, hda, hba, hll, hbl, hb3, h, atI_zero, hx1, min_if, J.l, lateOf])
  obtain ⟨ρ3, M3, e3, rfl, a3, b3, rfl⟩ := l3
  simp only [List.length_range] at e2 e3
  obtain ⟨ys, p3, hys, e4⟩ := law_mix (W := W) (n := n) p2 ((List.range jobs.length).map fun (i : Nat) => D.int (i : Int)) [.lst (il ((List.range jobs.length).map (N sj stops))), .lst (il dues), .lst (((List.range jobs.length).map (lateOf sj stops t dues)).map J.l)] (by simp; omega) (by simp [underO, underDs_iff, underD, underDs, J.l]) (by simp [underDs_iff, underD])
  obtain ⟨ord, rfl, hord⟩ := perm_unmap hys (List.range jobs.length) rfl
  refine ⟨t, dues, ord, ht, hdl, hdo, hord, ?_⟩
  have hordm : ∀ i ∈ ord, i < jobs.length := fun i hi => List.mem_range.mp (hord.mem_iff.mp hi)
  have hordl : ord.length = jobs.length := by simpa using hord.length_eq
  rw [List.nil_append] at c0
  have c0' : (jobs.map fun j => (sc unit j).tb) = sj.map J.tb := by simp [sj]
  rw [c0'] at c0
  have hsl' : (sj.map J.tb).length = jobs.length := by simp [hsl]
  have hrl := rngI_nat (M := [pu p, .lst []]) (show jobs.length ≤ 16777216 by omega)
  have hbig : jobs.length ≤ big := by simp [big, PySem.sizeLine]; omega
  generalize hSB : sj.map J.tb = SB at c0 e1 e2 e3 hgb hsl' c0'
  generalize hL : il ((List.range jobs.length).map (N sj stops)) = L at e1 e2 e3 e4 et hNi
  generalize hLd : il dues = Ld at e2 e3 e4 hgd
  have c9 := lcA_map (l := List.range jobs.length) (acc := []) (f := lcT P W (callF P W (n + 2)) [some (.ptr 0), some (.lst (jobs.map J.b)), some (.lst (il stops)), some (.int unit), some (.lst SB), some (.ptr 1), a2, some (.int t), some (.ptr 2), none, none, none, b2, none, none] (.n 6) .nil (.tup (.cons (.ix (.ix (.v 4) (.v 6)) (.int 0)) (.cons (.ix (.ix (.v 4) (.v 6)) (.int 1)) (.cons (.ix (.v 8) (.v 6)) .nil))))) (g := fun (i : Nat) => D.int (i : Int)) (k := fun i => (keptOf sj dues i).l) (M := [pu p2, .lst L, .lst Ld]) (fun i hi => by
    have hi := range_mem hi
    have h1 := hgb i hi
    have h2 := hgd i hi
    simp [lcT_app, gslots, wipeR, h1, h2, atI_zero, hx1, hb3, J.l, keptOf]) (by simp; omega)
  rw [List.nil_append] at c9
  have hKi : ∀ i, i < jobs.length → L2.atI ((List.range jobs.length).map fun i => (keptOf sj dues i).l) (i : Int) = some (keptOf sj dues i).l := fun i hi => atI_nat (by simp [hi])
  have hLi : ∀ i, i < jobs.length → L2.atI (((List.range jobs.length).map (lateOf sj stops t dues)).map J.l) (i : Int) = some (lateOf sj stops t dues i).l := fun i hi => atI_nat (by simp [hi])
  generalize hKK : ((List.range jobs.length).map fun i => (keptOf sj dues i).l) = KK at c9 e3 hKi
  generalize hLL : ((List.range jobs.length).map (lateOf sj stops t dues)).map J.l = LL at e3 e4 hLi
  have r1 : ∀ M, rngI (jobs.length : Int) M = .ok (.items ((List.range jobs.length).map fun (i : Nat) => D.int (i : Int))) M := fun M => rngI_nat (show jobs.length ≤ 16777216 by omega)
  have r2 : ∀ M, lrgI false (jobs.length : Int) M = newL false ((List.range jobs.length).map fun (i : Nat) => D.int (i : Int)) M := fun M => lrgI_nat (show jobs.length ≤ 16777216 by omega)
  generalize hRG : (List.range jobs.length).map (fun (i : Nat) => D.int (i : Int)) = RG at e1 e2 e3 e4 r1 r2 c9
  simp only [f12, b12, rSs_cons, rSs_nil]
  refine Rt.step [some (.ptr 0), some (.lst (jobs.map J.b)), some (.lst (il stops)), some (.int unit), some (.lst SB), none, none, none, none, none, none, none, none, none, none] [pu p] (by
    simp only [rS_asg, rE_lc, rI_val, rE_v, List.getElem?_cons_zero, List.getElem?_cons_succ, onV_some, zbind_ok, walk_lst, onO_some, lcW_items, c0, newL_f, zwith_ok]
    rfl) ?_
  refine Rt.step [some (.ptr 0), some (.lst (jobs.map J.b)), some (.lst (il stops)), some (.int unit), some (.lst SB), some (.ptr 1), none, none, none, none, none, none, none, none, none] [pu p, .lst []] (by simp [big, PySem.sizeLine]) ?_
  refine Rt.step _ _ (by
    simp [hsl', r1]
    exact e1) ?_
  refine Rt.step [some (.ptr 0), some (.lst (jobs.map J.b)), some (.lst (il stops)), some (.int unit), some (.lst SB), some (.ptr 1), a1, some (.int t), none, none, none, none, none, none, none] [pu p1, .lst L] (by simp [hsl', et]) ?_
  refine Rt.step [some (.ptr 0), some (.lst (jobs.map J.b)), some (.lst (il stops)), some (.int unit), some (.lst SB), some (.ptr 1), a1, some (.int t), some (.ptr 2), none, none, none, none, none, none] [pu p1, .lst L, .lst []] (by simp [big, PySem.sizeLine]) ?_
  refine Rt.step _ _ (by
    simp [hsl', r1]
    exact e2) ?_
  refine Rt.step [some (.ptr 0), some (.lst (jobs.map J.b)), some (.lst (il stops)), some (.int unit), some (.lst SB), some (.ptr 1), a2, some (.int t), some (.ptr 2), some (.lst KK), none, none, b2, none, none] [pu p2, .lst L, .lst Ld] (by simp [hsl', r1, c9]) ?_
  refine Rt.step [some (.ptr 0), some (.lst (jobs.map J.b)), some (.lst (il stops)), some (.int unit), some (.lst SB), some (.ptr 1), a2, some (.int t), some (.ptr 2), some (.lst KK), some (.ptr 3), none, b2, none, none] [pu p2, .lst L, .lst Ld, .lst []] (by simp [big, PySem.sizeLine]) ?_
  refine Rt.step _ _ (by
    simp [hsl', r1]
    exact e3) ?_
  refine Rt.step [some (.ptr 0), some (.lst (jobs.map J.b)), some (.lst (il stops)), some (.int unit), some (.lst SB), some (.ptr 1), a3, some (.int t), some (.ptr 2), some (.lst KK), some (.ptr 3), some (.lst (ord.map fun (i : Nat) => D.int (i : Int))), b3, none, none] [pu p3, .lst L, .lst Ld, .lst LL] (by simp [hsl', r2, e4]) ?_
  have ck := lcA_map (l := ord) (acc := []) (f := lcT P W (callF P W (n + 2)) [some (.ptr 0), some (.lst (jobs.map J.b)), some (.lst (il stops)), some (.int unit), some (.lst SB), some (.ptr 1), a3, some (.int t), some (.ptr 2), some (.lst KK), some (.ptr 3), some (.lst (ord.map fun (i : Nat) => D.int (i : Int))), b3, none, none] (.n 6) .nil (.ix (.v 9) (.v 6))) (g := fun (i : Nat) => D.int (i : Int)) (k := fun i => (keptOf sj dues i).l) (M := [pu p3, .lst L, .lst Ld, .lst LL]) (fun i hi => by
    simp [lcT_app, gslots, wipeR, hKi i (hordm i hi)]) (by simp; omega)
  have cl := lcA_map (l := ord) (acc := []) (f := lcT P W (callF P W (n + 2)) [some (.ptr 0), some (.lst (jobs.map J.b)), some (.lst (il stops)), some (.int unit), some (.lst SB), some (.ptr 1), a3, some (.int t), some (.ptr 2), some (.lst KK), some (.ptr 3), some (.lst (ord.map fun (i : Nat) => D.int (i : Int))), b3, none, none] (.n 6) .nil (.ix (.v 10) (.v 6))) (g := fun (i : Nat) => D.int (i : Int)) (k := fun i => (lateOf sj stops t dues i).l) (M := [pu p3, .lst L, .lst Ld, .lst LL]) (fun i hi => by
    simp [lcT_app, gslots, wipeR, hLi i (hordm i hi)]) (by simp; omega)
  rw [List.nil_append] at ck cl
  refine Rt.of (.lst [.lst (ord.map fun i => (keptOf sj dues i).l), .lst (ord.map fun i => (lateOf sj stops t dues i).l)]) [pu p3, .lst L, .lst Ld, .lst LL] (by
    generalize (ord.map fun (i : Nat) => D.int (i : Int)) = OD at ck cl ⊢
    simp [ck, cl, hb2]) ⟨by simp [Function.comp_def, sj], p3, _, rfl⟩
end K27

/-! Y27 -/
set_option maxRecDepth 100000
set_option maxHeartbeats 4000000
namespace K27
open G
variable {W : Nat}
variable {n : Nat} {M : Store}
theorem word_form {rows : List J} {stops : List Int} : word rows stops = .tup [.str "kept"] ∨ ∃ a b, word rows stops = .tup [.str "late", .int a, .int b] := by
  unfold word
  cases hf : (sortI (rows.map J.d)).findSome? (wordE rows stops) with
  | none => exact .inl rfl
  | some d =>
    obtain ⟨due, _, e⟩ := List.exists_of_findSome?_eq_some hf
    unfold wordE at e
    split at e
    · cases e; exact .inr ⟨_, _, rfl⟩
    · cases e
theorem okd_word {rows : List J} {stops : List Int} : okd 12 (top M (word rows stops)) = true := by
  rcases word_form (rows := rows) (stops := stops) with e | ⟨a, b, e⟩ <;> rw [e] <;> simp [top_tup, okd, sk_kept, sk_late]
theorem isTy_word {rows : List J} {stops : List Int} : isTy M .tuple (word rows stops) = some true := by
  rcases word_form (rows := rows) (stops := stops) with e | ⟨a, b, e⟩ <;> rw [e] <;> simp
theorem okd_jt {rows : List J} : (rows.map J.t).all (okd 11) = true := by
  rw [List.all_map, List.all_eq_true]
  intro q _
  simp [J.t, okd]
theorem top_ptr {i : Nat} {xs : List D} (h : M[i]? = some (.lst xs)) : top M (.ptr i) = .lst xs := by
  simp only [top, h]
theorem ne_ptr {i : Nat} {xs : List D} (h : M[i]? = some (.lst xs)) (hx : xs.all (okd 11) = true) : cmpop .ne (.ptr i) (.lst xs) M = .ok (.bl false) M := by
  have hx' : okd 12 (.lst xs) = true := hx
  rw [ne_dd (y := .lst xs) (by rw [top_ptr h]; exact hx') hx', top_ptr h, top_lst, eqd_refl _ _ hx']
  rfl
theorem f4m : findM 4 [(3, 24), (2, 25), (7, 26), (4, 27)] = some 27 := rfl
theorem f3m : findM 3 [(3, 24), (2, 25), (7, 26), (4, 27)] = some 24 := rfl
theorem f2m : findM 2 [(3, 24), (2, 25), (7, 26), (4, 27)] = some 25 := rfl
theorem meth_keeps {cf : Nat → List D → Store → Res D} {ρ : Rho} {S : Store} {b i : Nat} {rows : List J} {stops : List Int} (hb : S[b]? = some (benchO rows stops)) (hρ : ρ[i]? = some (some (.ptr b))) : runE P W cf ρ (.meth (.v i) 4 .nil) S = cf 27 [.ptr b] S := by
  simp [hρ, hb, benchO, cls0, f4m, getF]
theorem meth_jobs {cf : Nat → List D → Store → Res D} {ρ : Rho} {S : Store} {b i : Nat} {rows : List J} {stops : List Int} (hb : S[b]? = some (benchO rows stops)) (hρ : ρ[i]? = some (some (.ptr b))) : runE P W cf ρ (.meth (.v i) 3 .nil) S = cf 24 [.ptr b] S := by
  simp [hρ, hb, benchO, cls0, f3m, getF]
theorem meth_stops {cf : Nat → List D → Store → Res D} {ρ : Rho} {S : Store} {b i : Nat} {rows : List J} {stops : List Int} (hb : S[b]? = some (benchO rows stops)) (hρ : ρ[i]? = some (some (.ptr b))) : runE P W cf ρ (.meth (.v i) 2 .nil) S = cf 25 [.ptr b] S := by
  simp [hρ, hb, benchO, cls0, f2m, getF]
def Env (rows : List J) (stops : List Int) (b : Nat) (ρ : Rho) : Prop := ∃ h3 h4 h5 a6 a8 a9 a10 a11, ρ = [some (.lst (rows.map J.l)), some (.lst (il stops)), some (word rows stops), h3, h4, h5, a6, some (.ptr b), a8, a9, a10, a11]
theorem app_get {S R : Store} {b : Nat} {o : Ob} (h : S[b]? = some o) : (S ++ R)[b]? = some o := by
  rw [List.getElem?_append_left (List.getElem?_eq_some_iff.mp h).1, h]
theorem turn14 (rows : List J) (stops : List Int) (b : Nat) (S : Store) (x : D) (ρ : Rho) (hb : S[b]? = some (benchO rows stops)) (hx : ∀ j ∈ rows, j.ok) (hr : rows.length ≤ 1000) (hs : stops.length ≤ 1000) (hρ : Env rows stops b ρ) : ∃ ρ' R', foT P W (callF P W (n + 2)) (.n 8) b14_1 x ρ S = some (.nx ρ', S ++ R') ∧ Env rows stops b ρ' := by
  obtain ⟨h3, h4, h5, a6, a8, a9, a10, a11, rfl⟩ := hρ
  have k1 := keeps_all (W := W) (n := n) hb hx (by omega) (by omega)
  have k2 := jobs_m (W := W) (n := n + 1) hb
  have hb1 : (S ++ [.lst (rows.map J.t)])[b]? = some (benchO rows stops) := app_get hb
  have k3 := stops_m (W := W) (n := n + 1) hb1
  have hb2 : (S ++ [.lst (rows.map J.t)] ++ [.lst (il stops)])[b]? = some (benchO rows stops) := app_get hb1
  have k4 := stops_m (W := W) (n := n + 1) hb2
  have n1 := ne_same (M := S) (d := word rows stops) okd_word
  have g1 : (S ++ [.lst (rows.map J.t)])[S.length]? = some (.lst (rows.map J.t)) := st0
  have n2 := ne_ptr g1 okd_jt
  have g2 : (S ++ [.lst (rows.map J.t)] ++ [.lst (il stops)])[(S ++ [Ob.lst (rows.map J.t)]).length]? = some (.lst (il stops)) := st0
  have n3 := ne_ptr g2 okd_il
  have hlc := lcA_map (l := rows) (acc := []) (f := lcT P W (callF P W (n + 2)) [some (.lst (rows.map J.l)), some (.lst (il stops)), some (word rows stops), h3, h4, h5, a6, some (.ptr b), some x, some (word rows stops), some (.ptr S.length), a11] (.n 6) .nil (.tup (.cons (.ix (.v 6) (.int 0)) (.cons (.bi .tuple (.cons (.ix (.v 6) (.int 1)) .nil)) (.cons (.ix (.v 6) (.int 2)) .nil))))) (g := J.l) (k := J.t) (M := S ++ [.lst (rows.map J.t)]) (fun j _ => by simp [lcT_app, gslots, wipeR, J.l, at0, at1, at2, big, PySem.sizeLine, J.t]) (by simp [big, PySem.sizeLine]; omega)
  rw [List.nil_append] at hlc
  simp only [foT_app, b14_1, rSs_cons, rSs_nil, bindG_n, oO_some, List.set_cons_succ, List.set_cons_zero]
  suffices suf : Nx _ (fun ρ' M' => (∃ R', M' = S ++ R') ∧ Env rows stops b ρ') by
    obtain ⟨ρ', M', e, ⟨R', rfl⟩, he⟩ := suf
    exact ⟨ρ', R', e, he⟩
  refine Nx.step [some (.lst (rows.map J.l)), some (.lst (il stops)), some (word rows stops), h3, h4, h5, a6, some (.ptr b), some x, some (word rows stops), a10, a11] S (by
    rw [rS_asg, meth_keeps hb rfl, k1]; rfl) ?_
  refine Nx.step [some (.lst (rows.map J.l)), some (.lst (il stops)), some (word rows stops), h3, h4, h5, a6, some (.ptr b), some x, some (word rows stops), a10, a11] S (by
    simp [isTy_word, n1]) ?_
  refine Nx.step [some (.lst (rows.map J.l)), some (.lst (il stops)), some (word rows stops), h3, h4, h5, a6, some (.ptr b), some x, some (word rows stops), some (.ptr S.length), a11] (S ++ [.lst (rows.map J.t)]) (by
    rw [rS_asg, meth_jobs hb rfl, k2]; rfl) ?_
  refine Nx.step [some (.lst (rows.map J.l)), some (.lst (il stops)), some (word rows stops), h3, h4, h5, a6, some (.ptr b), some x, some (word rows stops), some (.ptr S.length), a11] (S ++ [.lst (rows.map J.t)] ++ [.lst (il stops)]) (by
    have i1 := isTy_ptr g1
    have me := meth_stops (W := W) (cf := callF P W (n + 2)) (ρ := [some (.lst (rows.map J.l)), some (.lst (il stops)), some (word rows stops), h3, h4, h5, a6, some (.ptr b), some x, some (word rows stops), some (.ptr S.length), a11]) (i := 7) hb1 rfl
    rw [k3] at me
    simp only [rS_ite, rT_or, rTo_2, rTo_1, rT_not, rT_val, rT_cmp, rE_isi, rE_v, List.getElem?_cons_zero, List.getElem?_cons_succ, onV_some, zbind_ok, i1, onO_some, truth_bl, Bool.not_true, Bool.false_eq_true, if_false, rE_lc, rI_val, walk_lst, lcW_items, hlc, newL_f, n2, onB_bl]
    rw [me]
    simp only [zbind_ok, rE_v, List.getElem?_cons_zero, List.getElem?_cons_succ, onV_some, n3, onB_bl, zwith_ok, Bool.false_eq_true, if_false, rSs_nil]) ?_
  have e2 : S ++ [.lst (rows.map J.t)] ++ [.lst (il stops)] = S ++ [.lst (rows.map J.t), .lst (il stops)] := by simp
  rw [e2] at hb2 k4 ⊢
  have e3 : (S ++ [.lst (rows.map J.t), .lst (il stops)]) ++ [.lst (il stops)] = S ++ [.lst (rows.map J.t), .lst (il stops), .lst (il stops)] := by simp
  rw [e3] at k4
  refine Nx.step [some (.lst (rows.map J.l)), some (.lst (il stops)), some (word rows stops), h3, h4, h5, a6, some (.ptr b), some x, some (word rows stops), some (.ptr S.length), a11] (S ++ [.lst (rows.map J.t), .lst (il stops), .lst (il stops)]) (by
    have i2 : isTy (S ++ [.lst (rows.map J.t), .lst (il stops), .lst (il stops)]) .list (.ptr (S ++ [Ob.lst (rows.map J.t), .lst (il stops)]).length) = some true := isTy_ptr (xs := il stops) (by simp [List.getElem?_append])
    have me := meth_stops (W := W) (cf := callF P W (n + 2)) (ρ := [some (.lst (rows.map J.l)), some (.lst (il stops)), some (word rows stops), h3, h4, h5, a6, some (.ptr b), some x, some (word rows stops), some (.ptr S.length), a11]) (i := 7) hb2 rfl
    rw [k4] at me
    simp only [rS_ite, rT_not, rT_val, rE_isi]
    rw [me]
    simp only [zbind_ok, i2, onO_some, truth_bl, Bool.not_true, Bool.false_eq_true, if_false, zwith_ok, rSs_nil]) ?_
  have hbl : rows.length < big := by simp [big, PySem.sizeLine]; omega
  have hbs : stops.length < big := by simp [big, PySem.sizeLine]; omega
  have hbb : (3 : Nat) ≤ big := by simp [big, PySem.sizeLine]
  have hbc : (1 : Nat) ≤ big := by simp [big, PySem.sizeLine]
  refine Nx.step [some (.lst (rows.map J.l)), some (.lst (il stops)), some (word rows stops), h3, h4, h5, a6, some (.ptr b), some x, some (word rows stops), some (.ptr S.length), a11] (S ++ [.lst (rows.map J.t ++ [.tup [.int 0, .tup [.int 1], .int 1]]), .lst (il stops), .lst (il stops)]) (by
    simp [st0, se0, hbl, hbb, hbc]) ?_
  have hb3 : (S ++ [.lst (rows.map J.t ++ [.tup [.int 0, .tup [.int 1], .int 1]]), .lst (il stops), .lst (il stops)])[b]? = some (benchO rows stops) := app_get hb
  have k5 := stops_m (W := W) (n := n + 1) hb3
  refine Nx.step [some (.lst (rows.map J.l)), some (.lst (il stops)), some (word rows stops), h3, h4, h5, a6, some (.ptr b), some x, some (word rows stops), some (.ptr S.length), some (.ptr (S.length + 3))] (S ++ [.lst (rows.map J.t ++ [.tup [.int 0, .tup [.int 1], .int 1]]), .lst (il stops), .lst (il stops), .lst (il stops)]) (by
    rw [rS_asg, meth_stops hb3 rfl, k5]
    simp) ?_
  have g3 : (S ++ [.lst (rows.map J.t ++ [.tup [.int 0, .tup [.int 1], .int 1]]), .lst (il stops), .lst (il stops), .lst (il stops)])[S.length + 3]? = some (.lst (il stops)) := by simp [List.getElem?_append]
  refine Nx.last (Nx.of [some (.lst (rows.map J.l)), some (.lst (il stops)), some (word rows stops), h3, h4, h5, a6, some (.ptr b), some x, some (word rows stops), some (.ptr S.length), some (.ptr (S.length + 3))] (S ++ [.lst (rows.map J.t ++ [.tup [.int 0, .tup [.int 1], .int 1]]), .lst (il stops), .lst (il stops), .lst (il stops ++ [.int 9])]) (by
    simp [g3, hbs]) ⟨⟨_, rfl⟩, _, _, _, _, _, _, _, _, rfl⟩)
end K27

/-! Z27 -/
set_option maxRecDepth 100000
set_option maxHeartbeats 4000000
namespace K27
open G
variable {W : Nat}
variable {n : Nat} {M : Store}
/-- rows handed in, their sections at places of the store -/
def hrows : Nat → List J → List D
  | _, [] => []
  | b, j :: r => .tup [.int j.s, .ptr b, .int j.d] :: hrows (b + 1) r
theorem hrows_len : ∀ (rows : List J) (b : Nat), (hrows b rows).length = rows.length
  | [], _ => rfl
  | j :: r, b => by simp [hrows, hrows_len r]
theorem hrows_get : ∀ (rows : List J) (b i : Nat) (j : J), rows[i]? = some j → (hrows b rows)[i]? = some (.tup [.int j.s, .ptr (b + i), .int j.d])
  | [], b, i, j, h => by simp at h
  | a :: r, b, 0, j, h => by simp at h; subst h; rfl
  | a :: r, b, i + 1, j, h => by
    have := hrows_get r (b + 1) i j (by simpa using h)
    simp only [hrows, List.getElem?_cons_succ, this]
    simp; omega
abbrev secs (rows : List J) : Store := rows.map fun j => Ob.lst (il j.x)
theorem lc_handed {cf : Nat → List D → Store → Res D} {ρ : Rho} (hρ : ρ.length = 12) : ∀ (rows : List J) (acc : List D) (S : Store), acc.length + rows.length ≤ 100000 → lcA (lcT P W cf ρ (.n 6) .nil (.tup (.cons (.ix (.v 6) (.int 0)) (.cons (.bi (.list true) (.cons (.ix (.v 6) (.int 1)) .nil)) (.cons (.ix (.v 6) (.int 2)) .nil))))) (rows.map J.l) acc S = .ok (acc ++ hrows S.length rows) (S ++ secs rows)
  | [], acc, S, _ => by simp [lcA, hrows]
  | j :: r, acc, S, hb => by
    rw [List.length_cons] at hb
    have h6 : (((ρ.set 6 none).set 6 (some j.l))[6]?) = some (some j.l) := by simp [hρ]
    have e : lcT P W cf ρ (.n 6) .nil (.tup (.cons (.ix (.v 6) (.int 0)) (.cons (.bi (.list true) (.cons (.ix (.v 6) (.int 1)) .nil)) (.cons (.ix (.v 6) (.int 2)) .nil)))) j.l S = .ok (some (.tup [.int j.s, .ptr S.length, .int j.d])) (S ++ [.lst (il j.x)]) := by
      have a0 : ∀ M, ixd M j.l (.int 0) = .ok (.int j.s) M := fun M => by simp [J.l, at0]
      have a1 : ∀ M, ixd M j.l (.int 1) = .ok (.lst (il j.x)) M := fun M => by simp [J.l, at1]
      have a2 : ∀ M, ixd M j.l (.int 2) = .ok (.int j.d) M := fun M => by simp [J.l, at2]
      have hb3 : (3 : Nat) ≤ big := by simp [big, PySem.sizeLine]
      simp only [lcT_app, gslots, wipeR, bindG_n, onO_some, rTs_0, noerr_ok, zbind_ok, if_true, rE_tup, rA_cons, rA_nil, rE_ix, rE_v, h6, onV_some, rE_int, rE_bi, bi_list, a0, a1, a2, seqOf_lst, newL_t, List.length_cons, List.length_nil, Nat.zero_add, Nat.reduceAdd, hb3]
    have hbl : acc.length < big := by simp [big, PySem.sizeLine]; omega
    rw [List.map_cons, lcA, e, bind_ok]
    simp only
    rw [if_pos hbl, lc_handed hρ r _ _ (by simp; omega)]
    simp [hrows]
theorem secs_get {rows : List J} {S R : Store} {i : Nat} {j : J} (h : rows[i]? = some j) : (S ++ secs rows ++ R)[S.length + i]? = some (.lst (il j.x)) := by
  have hi := (List.getElem?_eq_some_iff.mp h).1
  rw [List.append_assoc, List.getElem?_append_right (by omega), Nat.add_sub_cancel_left, List.getElem?_append_left (by simpa using hi), List.getElem?_map, h]; rfl
theorem asked (p : Int × Int × Int) (rows : List J) (stops : List Int) (hx : ∀ j ∈ rows, j.ok ∧ j.x.length ≤ 1000) (hr : rows.length ≤ 1000) (hs : stops.length ≤ 1000) (hE : benchE rows stops = none) (hW : 100000 < W) : callF P W (n + 6) 14 [.lst (rows.map J.l), .lst (il stops), word rows stops] [pu p] = .ok (.bl true) [pu p] := by
  rw [callF_eq (k := f14) rfl rfl]
  suffices suf : Rt (runSs P W (callF P W (n + 5)) f14.body [some (.lst (rows.map J.l)), some (.lst (il stops)), some (word rows stops), none, none, none, none, none, none, none, none, none] [pu p]) (fun d M' => d = .bl true ∧ ∃ R, M' = pu p :: R) by
    obtain ⟨d, M', e, rfl, R, rfl⟩ := suf
    have e' : (List.map some [D.lst (rows.map J.l), .lst (il stops), word rows stops] ++ List.replicate (f14.names.length - f14.np) none) = [some (.lst (rows.map J.l)), some (.lst (il stops)), some (word rows stops), none, none, none, none, none, none, none, none, none] := rfl
    rw [e', e]
    exact finish_rt_cut (M := [pu p]) (R := R) rfl rfl
  simp only [f14, b14, rSs_cons, rSs_nil]
  have c1 := lc_handed (W := W) (cf := callF P W (n + 5)) (ρ := [some (.lst (rows.map J.l)), some (.lst (il stops)), some (word rows stops), none, none, none, none, none, none, none, none, none]) rfl rows [] [pu p] (by simp; omega)
  rw [List.nil_append] at c1
  have hHl := hrows_len rows 1
  have hsl : (secs rows).length = rows.length := by simp
  refine Rt.step [some (.lst (rows.map J.l)), some (.lst (il stops)), some (word rows stops), some (.ptr (rows.length + 1)), none, none, none, none, none, none, none, none] (pu p :: (secs rows ++ [.lst (hrows 1 rows)])) (by
    simp only [rS_asg, rE_lc, rI_val, rE_v, List.getElem?_cons_zero, List.getElem?_cons_succ, onV_some, zbind_ok, walk_lst, onO_some, lcW_items, c1, newL_t, zwith_ok]
    simp) ?_
  refine Rt.step [some (.lst (rows.map J.l)), some (.lst (il stops)), some (word rows stops), some (.ptr (rows.length + 1)), some (.ptr (rows.length + 2)), none, none, none, none, none, none, none] (pu p :: (secs rows ++ [.lst (hrows 1 rows), .lst (il stops)])) (by
    simp) ?_
  have gH : ∀ (a : Ob) R, (pu p :: (secs rows ++ a :: R))[rows.length + 1]? = some a := fun a R => by simp
  have gS : ∀ (a b : Ob) R, (pu p :: (secs rows ++ a :: b :: R))[rows.length + 2]? = some b := fun a b R => by simp [List.getElem?_append]
  have hJ : JobsD (pu p :: (secs rows ++ [.lst (hrows 1 rows), .lst (il stops)])) (.ptr (rows.length + 1)) rows := by
    refine ⟨.hot (rows.length + 1), (hrows 1 rows).zip rows, walk_ptr (gH _ _), .inr ⟨_, rfl, ?_⟩, ?_, ?_⟩
    · rw [gH, List.map_fst_zip (by omega)]
    · intro q hq
      obtain ⟨i, hi⟩ := List.mem_iff_getElem?.mp hq
      rw [List.getElem?_zip_eq_some] at hi
      have e := hrows_get rows 1 i q.2 hi.2
      refine ⟨.ptr (1 + i), ?_, ?_⟩
      · have := hi.1
        rw [e] at this
        exact (Option.some.inj this).symm
      · rw [seqOf_ptr]
        have := secs_get (S := [pu p]) (R := [.lst (hrows 1 rows), .lst (il stops)]) hi.2
        have e2 : pu p :: (secs rows ++ [.lst (hrows 1 rows), .lst (il stops)]) = [pu p] ++ secs rows ++ [.lst (hrows 1 rows), .lst (il stops)] := by simp
        rw [e2, show 1 + i = [pu p].length + i from rfl, this]
        rfl
    · rw [List.map_snd_zip (by omega)]
  have hm := made (W := W) (n := n) hJ (st := .ptr (rows.length + 2)) (stops := stops) (by rw [seqOf_ptr, gS]; rfl) (by omega) (by omega) (fun j hj => by have := (hx j hj).2; omega) hW
  rw [hE] at hm
  simp only at hm
  have eL : (pu p :: (secs rows ++ [.lst (hrows 1 rows), .lst (il stops)])).length = rows.length + 3 := by simp
  have eS : (pu p :: (secs rows ++ [.lst (hrows 1 rows), .lst (il stops)])) ++ [benchO rows stops] = pu p :: (secs rows ++ [.lst (hrows 1 rows), .lst (il stops), benchO rows stops]) := by simp
  rw [eL, eS] at hm
  refine Rt.step [some (.lst (rows.map J.l)), some (.lst (il stops)), some (word rows stops), some (.ptr (rows.length + 1)), some (.ptr (rows.length + 2)), some (.tup [.str "bench", .ptr (rows.length + 3)]), none, none, none, none, none, none] (pu p :: (secs rows ++ [.lst (hrows 1 rows), .lst (il stops), benchO rows stops])) (by
    simp only [rS_asg, rE_call, rA_cons, rA_nil, rE_v, List.getElem?_cons_zero, List.getElem?_cons_succ, onV_some, zbind_ok, hm, zwith_ok]
    rfl) ?_
  refine Rt.step [some (.lst (rows.map J.l)), some (.lst (il stops)), some (word rows stops), some (.ptr (rows.length + 1)), some (.ptr (rows.length + 2)), some (.tup [.str "bench", .ptr (rows.length + 3)]), none, none, none, none, none, none] (pu p :: (secs rows ++ [.lst (hrows 1 rows), .lst (il stops), benchO rows stops])) (by
    have n1 := ne_ss (M := pu p :: (secs rows ++ [.lst (hrows 1 rows), .lst (il stops), benchO rows stops])) sk_bench sk_bench
    generalize pu p :: (secs rows ++ [.lst (hrows 1 rows), .lst (il stops), benchO rows stops]) = SS at n1
    simp [atI_zero, n1]) ?_
  refine Rt.then (I := fun ρ M => ∃ X a, M = pu p :: (X ++ [.lst (hrows 1 rows), .lst (il stops), benchO rows stops]) ∧ X.length = rows.length ∧ ρ = [some (.lst (rows.map J.l)), some (.lst (il stops)), some (word rows stops), some (.ptr (rows.length + 1)), some (.ptr (rows.length + 2)), some (.tup [.str "bench", .ptr (rows.length + 3)]), a, none, none, none, none, none]) ?_ ?_
  · have wp := walk_ptr (M := pu p :: (secs rows ++ [.lst (hrows 1 rows), .lst (il stops), benchO rows stops])) (gH _ _)
    simp only [rS_fo, rI_val, rE_v, List.getElem?_cons_zero, List.getElem?_cons_succ, onV_some, zbind_ok, wp, onO_some, zwith_ok, foW_hot]
    have key := forH_inv (l := hrows 1 rows) (g := id) (f := foT P W (callF P W (n + 5)) (.n 6) b14_2) (j := rows.length + 1) (W := W) (fun i ρ M => ∃ (X : Store) (a : Option D), M = pu p :: (X ++ [.lst (hrows 1 rows), .lst (il stops), benchO rows stops]) ∧ X.length = rows.length ∧ (∀ (k : Nat) (o : Ob), X[k]? = some o → ∃ l : List D, o = Ob.lst l ∧ l.length ≤ 1000 + i) ∧ ρ = [some (.lst (rows.map J.l)), some (.lst (il stops)), some (word rows stops), some (.ptr (rows.length + 1)), some (.ptr (rows.length + 2)), some (.tup [.str "bench", .ptr (rows.length + 3)]), a, none, none, none, none, none]) (ρ := [some (.lst (rows.map J.l)), some (.lst (il stops)), some (word rows stops), some (.ptr (rows.length + 1)), some (.ptr (rows.length + 2)), some (.tup [.str "bench", .ptr (rows.length + 3)]), none, none, none, none, none, none]) (M := pu p :: (secs rows ++ [.lst (hrows 1 rows), .lst (il stops), benchO rows stops])) ?_ (by omega) ⟨secs rows, none, rfl, hsl, ?_, rfl⟩ ?_
    · obtain ⟨ρ', M', e, X, a, h1, h2, _, h3⟩ := key
      exact ⟨ρ', M', e, X, a, h1, h2, h3⟩
    · rintro i ρ M ⟨X, a, rfl, hX, _, rfl⟩
      rw [List.map_id, ← hX]
      simp
    · intro k o h
      rw [List.getElem?_map] at h
      cases hk : rows[k]? with
      | none => rw [hk] at h; cases h
      | some j =>
        rw [hk] at h
        cases h
        exact ⟨_, rfl, by have := (hx j (List.mem_of_getElem? hk)).2; simp; omega⟩
    · rintro i a ρ M hi ⟨X, a', rfl, hX, hXl, rfl⟩
      have hil := (List.getElem?_eq_some_iff.mp hi).1
      rw [hHl] at hil
      have e := hrows_get rows 1 i rows[i] (by simp [hil])
      rw [hi] at e
      obtain rfl := Option.some.inj e
      obtain ⟨l, hl, hll⟩ := hXl i X[i] (by simp [hX, hil])
      have hg : X[i]? = some (.lst l) := by rw [← hl]; simp [hX, hil]
      have hg2 : (pu p :: (X ++ [.lst (hrows 1 rows), .lst (il stops), benchO rows stops]))[1 + i]? = some (.lst l) := by
        rw [Nat.add_comm, List.getElem?_cons_succ, List.getElem?_append_left (by omega), hg]
      have hset : ∀ o, (pu p :: (X ++ [.lst (hrows 1 rows), .lst (il stops), benchO rows stops])).set (1 + i) o = pu p :: (X.set i o ++ [.lst (hrows 1 rows), .lst (il stops), benchO rows stops]) := fun o => by
        rw [Nat.add_comm, List.set_cons_succ, List.set_append_left _ _ (by omega)]
      have hbl : l.length < big := by simp [big, PySem.sizeLine]; omega
      refine ⟨[some (.lst (rows.map J.l)), some (.lst (il stops)), some (word rows stops), some (.ptr (rows.length + 1)), some (.ptr (rows.length + 2)), some (.tup [.str "bench", .ptr (rows.length + 3)]), some (.tup [.int rows[i].s, .ptr (1 + i), .int rows[i].d]), none, none, none, none, none], pu p :: (X.set i (.lst (l ++ [.int 7])) ++ [.lst (hrows 1 rows), .lst (il stops), benchO rows stops]), ?_, X.set i (.lst (l ++ [.int 7])), _, rfl, by simp [hX], ?_, rfl⟩
      · simp [foT_app, b14_2, at1, hg2, hbl, hset]
      · intro k o h
        rw [List.getElem?_set] at h
        split at h
        · split at h
          · cases h; exact ⟨_, rfl, by simp; omega⟩
          · cases h
        · obtain ⟨l', e1, e2⟩ := hXl k o h
          exact ⟨l', e1, by omega⟩
  rintro ρ M ⟨X, a, rfl, hX, rfl⟩
  have hbH : rows.length < big := by simp [big, PySem.sizeLine]; omega
  have hbs : stops.length < big := by simp [big, PySem.sizeLine]; omega
  have hb1 : (1 : Nat) ≤ big := by simp [big, PySem.sizeLine]
  have hb3 : (3 : Nat) ≤ big := by simp [big, PySem.sizeLine]
  rw [← hX] at hHl hbH ⊢
  refine Rt.step [some (.lst (rows.map J.l)), some (.lst (il stops)), some (word rows stops), some (.ptr (X.length + 1)), some (.ptr (X.length + 2)), some (.tup [.str "bench", .ptr (X.length + 3)]), a, none, none, none, none, none] (pu p :: (X ++ [.lst (hrows 1 rows ++ [.tup [.int 1, .lst [.int 1], .int 1]]), .lst (il stops), benchO rows stops])) (by
    simp [hHl, hbH, hb1, hb3]) ?_
  refine Rt.step [some (.lst (rows.map J.l)), some (.lst (il stops)), some (word rows stops), some (.ptr (X.length + 1)), some (.ptr (X.length + 2)), some (.tup [.str "bench", .ptr (X.length + 3)]), a, none, none, none, none, none] (pu p :: (X ++ [.lst (hrows 1 rows ++ [.tup [.int 1, .lst [.int 1], .int 1]]), .lst (il stops ++ [.int 5]), benchO rows stops])) (by
    simp [hbs, List.getElem?_append]) ?_
  have hx2 : ∀ a b : D, L2.atI [a, b] 1 = some b := fun _ _ => rfl
  refine Rt.step [some (.lst (rows.map J.l)), some (.lst (il stops)), some (word rows stops), some (.ptr (X.length + 1)), some (.ptr (X.length + 2)), some (.tup [.str "bench", .ptr (X.length + 3)]), a, some (.ptr (X.length + 3)), none, none, none, none] (pu p :: (X ++ [.lst (hrows 1 rows ++ [.tup [.int 1, .lst [.int 1], .int 1]]), .lst (il stops ++ [.int 5]), benchO rows stops])) (by
    simp [hx2]) ?_
  refine Rt.then (I := fun ρ M => ∃ R, M = pu p :: R) ?_ ?_
  · have r2 : ∀ M, rngI 2 M = .ok (.items ((List.range 2).map fun (i : Nat) => D.int (i : Int))) M := fun M => rngI_nat (k := 2) (by omega)
    simp only [rS_fo, rI_rng1, rE_int, zbind_ok, onI_int, r2, zwith_ok, foW_items]
    refine Nx.mono (forL_inv (l := List.range 2) (g := fun (i : Nat) => D.int (i : Int)) (fun i ρ M => (∃ R, M = pu p :: R) ∧ M[X.length + 3]? = some (benchO rows stops) ∧ Env rows stops (X.length + 3) ρ) ⟨⟨_, rfl⟩, by simp [List.getElem?_append], _, _, _, _, _, _, _, _, rfl⟩ ?_) fun ρ M h => h.1
    rintro i b ρ M hi ⟨⟨R, rfl⟩, hb, hE⟩
    obtain ⟨ρ', R', e, he⟩ := turn14 (W := W) (n := n + 3) rows stops (X.length + 3) (pu p :: R) (.int b) ρ hb (fun j hj => (hx j hj).1) hr hs hE
    exact ⟨ρ', _, e, ⟨_, rfl⟩, app_get hb, he⟩
  rintro ρ M ⟨R, rfl⟩
  exact Rt.of (.bl true) (pu p :: R) (by simp) ⟨rfl, R, rfl⟩
end K27

/-! AA27 -/
set_option maxRecDepth 100000
set_option maxHeartbeats 4000000
namespace K27
open G
variable {W : Nat}
variable {n : Nat} {M : Store}
theorem made_ok {rows : List J} {stops : List Int} (h : benchE rows stops = none) (hr : rows.length ≤ 100000) (hl : stops.length ≤ 100000) (hx : ∀ j ∈ rows, j.x.length ≤ 100000) (hW : 100000 < W) : callF P W (n + 5) 13 [.lst (rows.map J.l), .lst (il stops)] M = .ok (.tup [.str "bench", .ptr M.length]) (M ++ [benchO rows stops]) := by
  have := made (W := W) (n := n) (M := M) (JobsD.lst (rows := rows)) (st := .lst (il stops)) rfl hr hl hx hW
  rw [h] at this; exact this
theorem made_er {rows : List J} {stops : List Int} {e : Er} (h : benchE rows stops = some e) (hr : rows.length ≤ 100000) (hl : stops.length ≤ 100000) (hx : ∀ j ∈ rows, j.x.length ≤ 100000) (hW : 100000 < W) : callF P W (n + 5) 13 [.lst (rows.map J.l), .lst (il stops)] M = .ok (madeD e) M := by
  have := made (W := W) (n := n) (M := M) (JobsD.lst (rows := rows)) (st := .lst (il stops)) rfl hr hl hx hW
  rw [h] at this; exact this
/-- numbers within the bounds -/
structure JB (j : J) : Prop where
  l : j.x.length ≤ 8
  s : j.s ≤ 1000000
  d : j.d ≤ 1000000
  x : ∀ v ∈ j.x, v ≤ 1000000
theorem lenE_none {j : J} (h : JB j) : lenE j = none := by
  unfold lenE
  refine find_num fun v hv => ?_
  rcases List.mem_cons.mp hv with rfl | hv
  · exact h.s
  rcases List.mem_cons.mp hv with rfl | hv
  · exact h.d
  exact h.x v hv
theorem secE_none {j : J} (h : JB j) : secE j = none := many_no (by have := h.l; omega)
theorem mn_pos {l : List Int} (h : l ≠ []) (h1 : ∀ v ∈ l, 1 ≤ v) : 1 ≤ mn l := h1 _ (List.min?_mem (mn_some h))
theorem mn_le {l : List Int} {v : Int} (h : v ∈ l) : mn l ≤ v := (List.min?_eq_some_iff.mp (mn_some (List.ne_nil_of_mem h))).2 v h
theorem jobBad_ok {j : J} (h : j.ok) : jobBad j = false := by
  have := mn_pos h.2.1 h.2.2.1
  have := h.1
  have := h.2.2.2
  have := h.2.1
  simp [jobBad, this]
  omega
theorem jobE_at {rows : List J} {i : Nat} {j : J} (h : rows[i]? = some j) : jobE rows i = if jobBad j = true then some (1, [.int i, .str "job"]) else none := by
  unfold jobE; rw [h]
theorem jobsE_none {rows : List J} (h : ∀ j ∈ rows, j.ok) : jobsE rows = none := by
  unfold jobsE
  rw [List.findSome?_eq_none_iff]
  intro i hi
  have hi := range_mem hi
  rw [jobE_at (show rows[i]? = some rows[i] by simp [hi]), jobBad_ok (h _ (List.getElem_mem hi))]
  rfl
theorem jobsE_at {rows : List J} {i : Nat} {w : J} (h : rows[i]? = some w) (hb : jobBad w = true) (h0 : ∀ k, k < i → ∀ j, rows[k]? = some j → j.ok) : jobsE rows = some (1, [.int i, .str "job"]) := by
  have hi := (List.getElem?_eq_some_iff.mp h).1
  refine find_at hi (by rw [jobE_at h, hb]; rfl) fun j hj => ?_
  have : rows[j]? = some (rows[j]'(by omega)) := by simp
  rw [jobE_at this, jobBad_ok (h0 j hj _ this)]; rfl
structure SB (stops : List Int) : Prop where
  l : stops.length ≤ 8
  v : ∀ v ∈ stops, v ≤ 1000000
theorem bench_pre {rows : List J} {stops : List Int} (hl : rows.length ≤ 12) (hb : ∀ j ∈ rows, JB j) (hs : SB stops) : benchE rows stops = (jobsE rows).or (lowE stops) := by
  unfold benchE
  rw [many_no (by omega), List.findSome?_eq_none_iff.mpr fun j hj => secE_none (hb j hj), List.findSome?_eq_none_iff.mpr fun j hj => lenE_none (hb j hj), find_num hs.v, many_no (by have := hs.l; omega)]
  rfl
theorem bench_ok {rows : List J} {stops : List Int} (hl : rows.length ≤ 12) (hb : ∀ j ∈ rows, JB j) (ho : ∀ j ∈ rows, j.ok) (hs : SB stops) (h1 : ∀ v ∈ stops, 1 ≤ v) : benchE rows stops = none := by
  rw [bench_pre hl hb hs, jobsE_none ho, lowE_ok h1]; rfl
theorem bench_job {rows : List J} {stops : List Int} {i : Nat} {w : J} (hl : rows.length ≤ 12) (hb : ∀ j ∈ rows, JB j) (hs : SB stops) (h : rows[i]? = some w) (hw : jobBad w = true) (h0 : ∀ k, k < i → ∀ j, rows[k]? = some j → j.ok) : benchE rows stops = some (1, [.int i, .str "job"]) := by
  rw [bench_pre hl hb hs, jobsE_at h hw h0]; rfl
theorem lowE_at {l : List Int} {i : Nat} {v : Int} (h : l[i]? = some v) (hv : v < 1) (h0 : ∀ k, k < i → ∀ u, l[k]? = some u → 1 ≤ u) : lowE l = some (1, [.int i, .str "stop"]) := by
  have hi := (List.getElem?_eq_some_iff.mp h).1
  refine find_at hi (by rw [lowE1_at h, if_pos hv]) fun j hj => ?_
  have e : l[j]? = some (l[j]'(by omega)) := by simp
  rw [lowE1_at e, if_neg]
  have := h0 j hj _ e
  omega
theorem bench_stop {rows : List J} {stops : List Int} {i : Nat} {v : Int} (hl : rows.length ≤ 12) (hb : ∀ j ∈ rows, JB j) (ho : ∀ j ∈ rows, j.ok) (hs : SB stops) (h : stops[i]? = some v) (hv : v < 1) (h0 : ∀ k, k < i → ∀ u, stops[k]? = some u → 1 ≤ u) : benchE rows stops = some (1, [.int i, .str "stop"]) := by
  rw [bench_pre hl hb hs, jobsE_none ho, lowE_at h hv h0]; rfl
theorem addL {xs ys : List D} (h : xs.length ≤ 1000) (h' : ys.length ≤ 1000) : binop .add (.lst xs) (.lst ys) M = .ok (.lst (xs ++ ys)) M := add_ll (by simp only [big, PySem.sizeLine]; omega)
theorem wrong_job (p : Int × Int × Int) (j : J) (ho : j.ok) (hb : JB j) : ∃ w p', jobBad w = true ∧ JB w ∧ callF P W (n + 2) 15 [.ptr 0, j.l] [pu p] = .ok w.l [pu p'] := by
  rw [callF_eq (k := f15) rfl rfl]
  have hl0 : 0 < j.x.length := by
    cases e : j.x with
    | nil => exact absurd e ho.2.1
    | cons a r => simp
  have hl8 := hb.l
  obtain ⟨a', p1, ha0, ha1, e1⟩ := draw (W := W) (n := n) p j.x.length (by omega) (by omega) []
  obtain ⟨a, rfl⟩ : ∃ a : Nat, a' = a := ⟨a'.toNat, by omega⟩
  obtain ⟨v2, p2, h20, h21, e2⟩ := draw (W := W) (n := n) p1 2 (by omega) (by omega) []
  obtain ⟨v3, p3, h30, h31, e3⟩ := draw (W := W) (n := n) p2 3 (by omega) (by omega) []
  obtain ⟨v4, p4, h40, h41, e4⟩ := draw (W := W) (n := n) p3 2 (by omega) (by omega) []
  obtain ⟨v5, p5, h50, h51, e5⟩ := draw (W := W) (n := n) p4 4 (by omega) (by omega) []
  let x' : List Int := j.x.take a ++ (0 - v2) :: j.x.drop (a + 1)
  have hx' : (il j.x).take a ++ [.int (0 - v2)] ++ (il j.x).drop (a + 1) = il x' := by simp [x']
  have hxl : x'.length ≤ 8 := by simp [x']; omega
  have hm : (0 - v2) ∈ x' := List.mem_append_right _ List.mem_cons_self
  have hxb : ∀ v ∈ x', v ≤ 1000000 := by
    intro v hv
    rcases List.mem_append.mp hv with hv | hv
    · exact hb.x v (List.mem_of_mem_take hv)
    · rcases List.mem_cons.mp hv with rfl | hv
      · omega
      · exact hb.x v (List.mem_of_mem_drop hv)
  have hw : ∃ w : J, L2.atI [D.tup [.int (-1 - v3), .lst (il j.x), .int j.d], D.tup [.int j.s, .lst [], .int j.d], D.tup [.int j.s, .lst (il x'), .int j.d], D.tup [.int j.s, .lst (il j.x), .int (0 - v4)]] v5 = some w.l ∧ jobBad w = true ∧ JB w := by
    have : v5 = 0 ∨ v5 = 1 ∨ v5 = 2 ∨ v5 = 3 := by omega
    have hs := hb.s
    have hd := hb.d
    rcases this with rfl | rfl | rfl | rfl
    · exact ⟨⟨-1 - v3, j.x, j.d⟩, rfl, by simp [jobBad]; omega, hb.l, by dsimp only; omega, hb.d, hb.x⟩
    · exact ⟨⟨j.s, [], j.d⟩, rfl, by simp [jobBad], by simp, hb.s, hb.d, by simp⟩
    · exact ⟨⟨j.s, x', j.d⟩, rfl, by
        have := mn_le hm
        have : mn x' < 1 := by omega
        simp [jobBad, this], hxl, hb.s, hb.d, hxb⟩
    · exact ⟨⟨j.s, j.x, 0 - v4⟩, rfl, by simp [jobBad]; omega, hb.l, hb.s, by dsimp only; omega, hb.x⟩
  obtain ⟨w, hw1, hw2, hw3⟩ := hw
  refine ⟨w, p5, hw2, hw3, ?_⟩
  have c1 := cut_to (xs := il j.x) (k := a) (by simp; omega)
  have c2 := cut_from (xs := il j.x) (k := a + 1) (by simp; omega)
  have c2' : cutd (il j.x) (some ((a : Int) + 1)) none = (il j.x).drop (a + 1) := c2
  have h1 := addL (M := [pu p2]) (xs := (il j.x).take a) (ys := [.int (0 - v2)]) (by simp; omega) (by simp)
  have h2 := addL (M := [pu p2]) (xs := (il j.x).take a ++ [.int (0 - v2)]) (ys := (il j.x).drop (a + 1)) (by simp; omega) (by simp; omega)
  rw [hx'] at h2
  have hb1 : (1 : Nat) ≤ big := by simp [big, PySem.sizeLine]
  have hb3 : (3 : Nat) ≤ big := by simp [big, PySem.sizeLine]
  have hb4 : (4 : Nat) ≤ big := by simp [big, PySem.sizeLine]
  have hxl' : (il j.x).length = j.x.length := by simp
  generalize hX : il j.x = X at c1 c2' h1 h2 hw1 hxl'
  generalize hX' : il x' = X' at h2 hw1
  generalize (X.take a) = T at c1 h1 h2
  simp only [f15, b15, rSs_cons, rSs_nil]
  have hjl : j.l = .tup [.int j.s, .lst X, .int j.d] := by rw [← hX]; rfl
  suffices suf : Rt (runSs P W (callF P W (n + 1)) f15.body [some (.ptr 0), some j.l, none, none, none, none, none, none] [pu p]) (fun d M' => d = w.l ∧ M' = [pu p5]) by
    obtain ⟨d, M', e, rfl, rfl⟩ := suf
    have e' : (List.map some [D.ptr 0, j.l] ++ List.replicate (8 - 2) none) = [some (.ptr 0), some j.l, none, none, none, none, none, none] := rfl
    simp only [f15, b15, rSs_cons, rSs_nil] at e
    simp only [List.length_cons, List.length_nil]
    rw [show (0 + 1 + 1 + 1 + 1 + 1 + 1 + 1 + 1 - 2 : Nat) = 8 - 2 from rfl, e', e]
    exact finish_rt_same rfl
  simp only [f15, b15, rSs_cons, rSs_nil]
  refine Rt.step [some (.ptr 0), some j.l, none, none, none, some (.int j.s), some (.lst X), some (.int j.d)] [pu p] (by simp [hjl, bindG_t]) ?_
  refine Rt.step [some (.ptr 0), some j.l, some (.int a), none, none, some (.int j.s), some (.lst X), some (.int j.d)] [pu p1] (by simp [hxl', e1]) ?_
  refine Rt.step [some (.ptr 0), some j.l, some (.int a), some (.lst X'), none, some (.int j.s), some (.lst X), some (.int j.d)] [pu p2] (by
    simp only [rS_asg, rE_bin, rE_sl, rO_no, rO_so, rE_lst, rA_cons, rA_nil, rE_v, rE_int, rE_call, List.getElem?_cons_zero, List.getElem?_cons_succ, onV_some, zbind_ok, onI_int, sld_lst, add_ii, sub_ii, c1, c2', e2, List.length_cons, List.length_nil, hb1, if_true, newL_f, h1, h2, Nat.zero_add, zwith_ok]
    rfl) ?_
  refine Rt.step [some (.ptr 0), some j.l, some (.int a), some (.lst X'), some (.lst [D.tup [.int (-1 - v3), .lst X, .int j.d], D.tup [.int j.s, .lst [], .int j.d], D.tup [.int j.s, .lst X', .int j.d], D.tup [.int j.s, .lst X, .int (0 - v4)]]), some (.int j.s), some (.lst X), some (.int j.d)] [pu p4] (by simp [e3, e4, hb3, hb4]) ?_
  refine Rt.of w.l [pu p5] (by simp only [rS_ret, rE_ix, rE_v, rE_call, rA_cons, rA_nil, rE_int, List.getElem?_cons_zero, List.getElem?_cons_succ, onV_some, zbind_ok, e5, ixd_int, seqOf_lst, onO_some, hw1, zwith_ok]) ⟨rfl, rfl⟩
end K27

/-! AB27 -/
set_option maxRecDepth 100000
set_option maxHeartbeats 4000000
namespace K27
open G
variable {W : Nat}
variable {n : Nat} {M : Store}
/-- a list with one exchanged -/
def exch {α : Type} (rows : List α) (k : Nat) (w : α) : List α := rows.take k ++ w :: rows.drop (k + 1)
section
variable {α : Type} {rows : List α} {k j : Nat} {w q : α}
theorem exch_len (h : k < rows.length) : (exch rows k w).length = rows.length := by
  simp [exch]; omega
theorem exch_get (h : k < rows.length) : (exch rows k w)[k]? = some w := by
  unfold exch
  rw [List.getElem?_append_right (by simp; omega)]
  simp [Nat.min_eq_left (Nat.le_of_lt h)]
theorem exch_lo (h : k < rows.length) (hj : j < k) (e : (exch rows k w)[j]? = some q) : q ∈ rows := by
  unfold exch at e
  rw [List.getElem?_append_left (by simp; omega)] at e
  exact List.mem_of_mem_take (List.mem_of_getElem? e)
theorem exch_mem (e : q ∈ exch rows k w) : q ∈ rows ∨ q = w := by
  unfold exch at e
  rcases List.mem_append.mp e with e | e
  · exact .inl (List.mem_of_mem_take e)
  · rcases List.mem_cons.mp e with e | e
    · exact .inr e
    · exact .inl (List.mem_of_mem_drop e)
end
theorem refused (p : Int × Int × Int) (rows : List J) (stops : List Int) (hn : rows ≠ []) (hl : rows.length ≤ 12) (ho : ∀ j ∈ rows, j.ok) (hb : ∀ j ∈ rows, JB j) (hs : stops.length ≤ 3) (hv : ∀ v ∈ stops, 1 ≤ v ∧ v ≤ 1000000) (hW : 100000 < W) : ∃ p', callF P W (n + 6) 16 [.ptr 0, .lst (rows.map J.l), .lst (il stops)] [pu p] = .ok (.bl true) [pu p'] := by
  rw [callF_eq (k := f16) rfl rfl]
  have hl0 : 0 < rows.length := by
    cases rows with
    | nil => exact absurd rfl hn
    | cons a r => simp
  obtain ⟨a', p1, ha0, ha1, e1⟩ := draw (W := W) (n := n + 4) p rows.length (by omega) (by omega) []
  obtain ⟨a, rfl⟩ : ∃ a : Nat, a' = a := ⟨a'.toNat, by omega⟩
  have ha : a < rows.length := by omega
  obtain ⟨w, p2, hw1, hw2, e2⟩ := wrong_job (W := W) (n := n + 3) p1 rows[a] (ho _ (List.getElem_mem ha)) (hb _ (List.getElem_mem ha))
  obtain ⟨b', p3, hb0, hb1, e3⟩ := draw (W := W) (n := n + 4) p2 (stops.length + 1) (by omega) (by omega) []
  obtain ⟨b, rfl⟩ : ∃ b : Nat, b' = b := ⟨b'.toNat, by omega⟩
  have hbl : b ≤ stops.length := by omega
  obtain ⟨v, p4, hv0, hv1, e4⟩ := draw (W := W) (n := n + 4) p3 2 (by omega) (by omega) []
  have hg : L2.atI (rows.map J.l) (a : Int) = some rows[a].l := atI_nat (by simp [ha])
  let sp := exch rows a w
  have hspl : sp.length = rows.length := exch_len ha
  have hspb : ∀ j ∈ sp, JB j := fun j hj => by
    rcases exch_mem hj with hj | rfl
    · exact hb j hj
    · exact hw2
  have hspD : (rows.map J.l).take a ++ [w.l] ++ (rows.map J.l).drop (a + 1) = sp.map J.l := by simp [sp, exch]
  have hsb : SB stops := ⟨by omega, fun v hm => (hv v hm).2⟩
  have m1 := made_er (W := W) (n := n) (M := [pu p2]) (bench_job (i := a) (by omega) hspb hsb (exch_get ha) hw1 fun k hk j hj => ho j (exch_lo ha hk hj)) (by omega) (by omega) (fun j hj => by have := (hspb j hj).l; omega) hW
  -- with one more wrong job
  let ex : List J := ([⟨-1, [], 0⟩] : List J).take (12 - rows.length)
  have hexl : ex.length ≤ 12 - rows.length := by simp [ex]; omega
  have hexb : ∀ j ∈ ex, JB j := fun j hj => by
    obtain rfl := List.mem_singleton.mp (List.mem_of_mem_take hj)
    exact ⟨by simp, by simp, by simp, by simp⟩
  let rows2 := sp.take (a + 1) ++ ex ++ sp.drop (a + 1)
  have hr2l : rows2.length ≤ 12 := by simp [rows2]; omega
  have hr2b : ∀ j ∈ rows2, JB j := fun j hj => by
    rcases List.mem_append.mp hj with hj | hj
    · rcases List.mem_append.mp hj with hj | hj
      · exact hspb j (List.mem_of_mem_take hj)
      · exact hexb j hj
    · exact hspb j (List.mem_of_mem_drop hj)
  have hr2lo : ∀ k, k < a + 1 → rows2[k]? = sp[k]? := fun k hk => by
    simp only [rows2]
    rw [List.append_assoc, List.getElem?_append_left (by simp; omega), List.getElem?_take, if_pos hk]
  have hs0 : SB (stops ++ [0]) := ⟨by simp; omega, fun v hm => by
    rcases List.mem_append.mp hm with hm | hm
    · exact (hv v hm).2
    · obtain rfl := List.mem_singleton.mp hm; decide⟩
  have m2 := made_er (W := W) (n := n) (M := [pu p2]) (bench_job (i := a) hr2l hr2b hs0 (by rw [hr2lo a (by omega)]; exact exch_get ha) hw1 fun k hk j hj => ho j (exch_lo ha hk (by rw [← hr2lo k (by omega)]; exact hj))) (by omega) (by simp; omega) (fun j hj => by have := (hr2b j hj).l; omega) hW
  -- wrong stops
  let ws : List Int := stops.take b ++ [0 - v] ++ stops.drop b
  have hwsD : (il stops).take b ++ [.int (0 - v)] ++ (il stops).drop b = il ws := by simp [ws]
  have hwsl : ws.length = stops.length + 1 := by simp [ws]; omega
  have hwsv : ∀ u ∈ ws, u ≤ 1000000 := fun u hu => by
    rcases List.mem_append.mp hu with hu | hu
    · rcases List.mem_append.mp hu with hu | hu
      · exact (hv u (List.mem_of_mem_take hu)).2
      · obtain rfl := List.mem_singleton.mp hu; omega
    · exact (hv u (List.mem_of_mem_drop hu)).2
  have hwsb : ws[b]? = some (0 - v) := by
    simp only [ws]
    rw [List.append_assoc, List.getElem?_append_right (by simp; omega)]
    simp [Nat.min_eq_left hbl]
  have hwslo : ∀ k, k < b → ∀ u, ws[k]? = some u → 1 ≤ u := fun k hk u hu => by
    simp only [ws] at hu
    rw [List.append_assoc, List.getElem?_append_left (by simp; omega)] at hu
    exact (hv u (List.mem_of_mem_take (List.mem_of_getElem? hu))).1
  have m3 := made_er (W := W) (n := n) (M := [pu p4]) (bench_stop (i := b) hl hb ho ⟨by omega, hwsv⟩ hwsb (by omega) hwslo) (by omega) (by omega) (fun j hj => by have := (hb j hj).l; omega) hW
  have m4 := made_er (W := W) (n := n) (M := [pu p4]) (bench_stop (i := b) (stops := ws ++ [-1]) hl hb ho ⟨by simp; omega, fun u hu => by
    rcases List.mem_append.mp hu with hu | hu
    · exact hwsv u hu
    · obtain rfl := List.mem_singleton.mp hu; decide⟩ (by rw [List.getElem?_append_left (by omega)]; exact hwsb) (by omega) (fun k hk u hu => by
      rw [List.getElem?_append_left (by omega)] at hu
      exact hwslo k hk u hu)) (by omega) (by simp; omega) (fun j hj => by have := (hb j hj).l; omega) hW
  have m5 := made_ok (W := W) (n := n) (M := [pu p4]) (bench_ok hl hb ho hsb fun v hm => (hv v hm).1) (by omega) (by omega) (fun j hj => by have := (hb j hj).l; omega) hW
  have m6 := made_ok (W := W) (n := n) (M := [pu p4] ++ [benchO rows stops]) (bench_ok (rows := []) (stops := [1]) (by simp) (by simp) (by simp) ⟨by simp, by simp⟩ (by simp)) (by simp) (by simp) (by simp) hW
  suffices suf : Rt (runSs P W (callF P W (n + 5)) f16.body [some (.ptr 0), some (.lst (rows.map J.l)), some (.lst (il stops)), none, none, none, none] [pu p]) (fun d M' => d = .bl true ∧ ∃ p' R, M' = pu p' :: R) by
    obtain ⟨d, M', e, rfl, p', R, rfl⟩ := suf
    have e' : (List.map some [D.ptr 0, .lst (rows.map J.l), .lst (il stops)] ++ List.replicate (f16.names.length - f16.np) none) = [some (.ptr 0), some (.lst (rows.map J.l)), some (.lst (il stops)), none, none, none, none] := rfl
    refine ⟨p', ?_⟩
    rw [e', e]
    exact finish_rt_cut2 (M := [pu p]) (N := [pu p']) (R := R) rfl rfl rfl (by simp [underO, underDs, underD])
  have hb1' : (1 : Nat) ≤ big := by simp [big, PySem.sizeLine]
  have hb3 : (3 : Nat) ≤ big := by simp [big, PySem.sizeLine]
  have hb0 : (0 : Nat) ≤ big := by simp
  have c1 := cut_to (xs := rows.map J.l) (k := a) (by simp; omega)
  have c2 : cutd (rows.map J.l) (some ((a : Int) + 1)) none = (rows.map J.l).drop (a + 1) := cut_from (xs := rows.map J.l) (k := a + 1) (by simp; omega)
  have c3 : cutd (sp.map J.l) none (some ((a : Int) + 1)) = (sp.map J.l).take (a + 1) := cut_to (xs := sp.map J.l) (k := a + 1) (by simp; omega)
  have c4 : cutd (sp.map J.l) (some ((a : Int) + 1)) none = (sp.map J.l).drop (a + 1) := cut_from (xs := sp.map J.l) (k := a + 1) (by simp; omega)
  have c5 : cutd [D.tup [.int (-1), .lst [], .int 0]] none (some (12 - (rows.length : Int))) = ex.map J.l := by
    rw [show (12 - (rows.length : Int)) = ((12 - rows.length : Nat) : Int) by omega]
    unfold cutd
    rw [HT.sIx_nat, HT.sIx_none]
    simp only [ex, List.map_take, List.length_cons, List.length_nil, Nat.sub_zero, List.drop_zero, Nat.zero_add]
    by_cases h : rows.length = 12
    · simp [h]
    · rw [List.take_of_length_le (by simp; omega), List.take_of_length_le (by simp; omega)]; rfl
  have c6 := cut_to (xs := il stops) (k := b) (by simp; omega)
  have c7 := cut_from (xs := il stops) (k := b) (by simp; omega)
  have q1 : ∀ M, cmpop .ne (madeD (1, [.int a, .str "job"])) (.tup [.str "bad", .str "job", .int a]) M = .ok (.bl false) M := fun M => ne_same (d := .tup [.str "bad", .str "job", .int a]) (by simp [top_tup, okd, sk_bad, sk_job])
  have q2 : ∀ M, cmpop .ne (madeD (1, [.int b, .str "stop"])) (.tup [.str "bad", .str "stop", .int b]) M = .ok (.bl false) M := fun M => ne_same (d := .tup [.str "bad", .str "stop", .int b]) (by simp [top_tup, okd, sk_bad, sk_stop])
  have q3 : ∀ M, cmpop .eq (.str "bench") (.str "bench") M = .ok (.bl true) M := fun M => eq_same (d := .str "bench") sk_bench
  have a1 := addL (M := [pu p2]) (xs := (rows.map J.l).take a) (ys := [w.l]) (by simp; omega) (by simp)
  have a2 := addL (M := [pu p2]) (xs := (rows.map J.l).take a ++ [w.l]) (ys := (rows.map J.l).drop (a + 1)) (by simp; omega) (by simp; omega)
  rw [hspD] at a2
  have a3 := addL (M := [pu p2]) (xs := (sp.map J.l).take (a + 1)) (ys := ex.map J.l) (by simp; omega) (by simp; omega)
  have a4 := addL (M := [pu p2]) (xs := (sp.map J.l).take (a + 1) ++ ex.map J.l) (ys := (sp.map J.l).drop (a + 1)) (by simp; omega) (by simp; omega)
  have e5 : (sp.map J.l).take (a + 1) ++ ex.map J.l ++ (sp.map J.l).drop (a + 1) = rows2.map J.l := by simp [rows2]
  rw [e5] at a4
  have a5 := addL (M := [pu p2]) (xs := il stops) (ys := [.int 0]) (by simp; omega) (by simp)
  have e6 : il stops ++ [.int 0] = il (stops ++ [0]) := by simp
  rw [e6] at a5
  have a6 := addL (M := [pu p4]) (xs := (il stops).take b) (ys := [.int (0 - v)]) (by simp; omega) (by simp)
  have a7 := addL (M := [pu p4]) (xs := (il stops).take b ++ [.int (0 - v)]) (ys := (il stops).drop b) (by simp; omega) (by simp; omega)
  rw [hwsD] at a7
  have a8 := addL (M := [pu p4]) (xs := il ws) (ys := [.int (-1)]) (by simp; omega) (by simp)
  have e7 : il ws ++ [.int (-1)] = il (ws ++ [-1]) := by simp
  rw [e7] at a8
  have hRl : (rows.map J.l).length = rows.length := by simp
  have hSl : (il stops).length = stops.length := by simp
  simp only [f16, b16, rSs_cons, rSs_nil]
  refine Rt.step [some (.ptr 0), some (.lst (rows.map J.l)), some (.lst (il stops)), some (.int a), none, none, none] [pu p1] (by simp [e1]) ?_
  refine Rt.step [some (.ptr 0), some (.lst (rows.map J.l)), some (.lst (il stops)), some (.int a), some (.lst (sp.map J.l)), none, none] [pu p2] (by
    simp only [rS_asg, rE_bin, rE_sl, rE_ix, rO_no, rO_so, rE_lst, rA_cons, rA_nil, rE_v, rE_int, rE_call, List.getElem?_cons_zero, List.getElem?_cons_succ, onV_some, zbind_ok, onI_int, sld_lst, add_ii, c1, c2, e2, ixd_int, seqOf_lst, onO_some, hg, List.length_cons, List.length_nil, hb1', if_true, newL_f, a1, a2, Nat.zero_add, zwith_ok]
    rfl) ?_
  refine Rt.step [some (.ptr 0), some (.lst (rows.map J.l)), some (.lst (il stops)), some (.int a), some (.lst (sp.map J.l)), none, none] [pu p2] (by
    simp only [rS_ite, rT_cmp, rE_call, rA_cons, rA_nil, rE_v, rE_tup, rE_str, List.getElem?_cons_zero, List.getElem?_cons_succ, onV_some, zbind_ok, m1, List.length_cons, List.length_nil, Nat.zero_add, Nat.reduceAdd, hb3, if_true, q1, onB_bl, zwith_ok, Bool.false_eq_true, if_false, rSs_nil]) ?_
  refine Rt.step [some (.ptr 0), some (.lst (rows.map J.l)), some (.lst (il stops)), some (.int a), some (.lst (sp.map J.l)), none, none] [pu p2] (by
    simp only [rS_ite, rT_cmp, rE_call, rE_bin, rE_sl, rO_no, rO_so, rE_neg, rE_bi, bi_len, hRl, sub_ii, rE_lst, newL_f, onI_int, sld_lst, add_ii, c3, c4, c5, a3, a4, a5, seqOf_lst, onO_some, rE_int, rA_cons, rA_nil, rE_v, rE_tup, rE_str, List.getElem?_cons_zero, List.getElem?_cons_succ, onV_some, zbind_ok, m2, List.length_cons, List.length_nil, Nat.zero_add, Nat.reduceAdd, hb0, hb1', hb3, if_true, q1, onB_bl, zwith_ok, Bool.false_eq_true, if_false, rSs_nil]) ?_
  refine Rt.step [some (.ptr 0), some (.lst (rows.map J.l)), some (.lst (il stops)), some (.int a), some (.lst (sp.map J.l)), some (.int b), none] [pu p3] (by
    simp only [rS_asg, rE_bin, rE_bi, bi_len, hSl, seqOf_lst, onO_some, add_ii, rE_int, rE_call, rA_cons, rA_nil, rE_v, List.getElem?_cons_zero, List.getElem?_cons_succ, onV_some, zbind_ok, e3, zwith_ok]
    rfl) ?_
  refine Rt.step [some (.ptr 0), some (.lst (rows.map J.l)), some (.lst (il stops)), some (.int a), some (.lst (sp.map J.l)), some (.int b), some (.lst (il ws))] [pu p4] (by
    simp only [rS_asg, rE_bin, rE_sl, rE_ix, rO_no, rO_so, rE_lst, rA_cons, rA_nil, rE_v, rE_int, rE_call, List.getElem?_cons_zero, List.getElem?_cons_succ, onV_some, zbind_ok, onI_int, sld_lst, sub_ii, c6, c7, e4, List.length_cons, List.length_nil, hb1', if_true, newL_f, a6, a7, Nat.zero_add, zwith_ok]
    rfl) ?_
  refine Rt.step [some (.ptr 0), some (.lst (rows.map J.l)), some (.lst (il stops)), some (.int a), some (.lst (sp.map J.l)), some (.int b), some (.lst (il ws))] [pu p4] (by
    simp only [rS_ite, rT_or, rTo_2, rTo_1, rT_cmp, rE_call, rE_bin, rE_neg, rE_int, onI_int, rE_lst, newL_f, a8, rA_cons, rA_nil, rE_v, rE_tup, rE_str, List.getElem?_cons_zero, List.getElem?_cons_succ, onV_some, zbind_ok, m3, m4, List.length_cons, List.length_nil, Nat.zero_add, Nat.reduceAdd, hb1', hb3, if_true, q2, onB_bl, zwith_ok, Bool.false_eq_true, if_false, rSs_nil]) ?_
  have m6' : callF P W (n + 5) 13 [.lst [], .lst [.int 1]] ([pu p4] ++ [benchO rows stops]) = _ := m6
  refine Rt.of (.bl true) ([pu p4] ++ [benchO rows stops] ++ [benchO [] [1]]) (by
    simp only [rS_ret, rE_and, rAnd_2, rAnd_1, rE_cmp, rE_ix, rE_call, rE_int, rE_lst, newL_f, rA_cons, rA_nil, rE_v, rE_str, List.getElem?_cons_zero, List.getElem?_cons_succ, onV_some, zbind_ok, m5, m6', ixd_int, seqOf_tup, onO_some, atI_zero, q3, onB_bl, List.length_cons, List.length_nil, Nat.zero_add, hb0, hb1', if_true, zwith_ok]) ⟨rfl, p4, _, rfl⟩
end K27

/-! AC27 -/
set_option maxRecDepth 100000
set_option maxHeartbeats 4000000
namespace K27
open G
variable {W : Nat}
variable {n : Nat} {M : Store}
def erIs (e : Option Er) (x : PySem.Str) : Bool := match e with
  | some (0, [.str y]) => y == x
  | _ => false
theorem erIs_some {e : Option Er} {x : PySem.Str} (h : erIs e x = true) : e = some (0, [.str x]) := by
  unfold erIs at h
  split at h
  · obtain rfl := eq_of_beq h; rfl
  · cases h
theorem isNone_eq {e : Option Er} (h : e.isNone = true) : e = none := by simpa using h
def lens (rows : List J) (stops : List Int) : Bool := decide (rows.length ≤ 100000) && decide (stops.length ≤ 100000) && rows.all fun j => decide (j.x.length ≤ 100000)
theorem mk_ok {rows : List J} {stops : List Int} (h : (benchE rows stops).isNone = true) (hl : lens rows stops = true) (hW : 100000 < W) : callF P W (n + 5) 13 [.lst (rows.map J.l), .lst (il stops)] M = .ok (.tup [.str "bench", .ptr M.length]) (M ++ [benchO rows stops]) := by
  simp only [lens, Bool.and_eq_true, decide_eq_true_eq, List.all_eq_true] at hl
  exact made_ok (isNone_eq h) hl.1.1 hl.1.2 hl.2 hW
theorem mk_er {rows : List J} {stops : List Int} {x : PySem.Str} (h : erIs (benchE rows stops) x = true) (hl : lens rows stops = true) (hW : 100000 < W) : callF P W (n + 5) 13 [.lst (rows.map J.l), .lst (il stops)] M = .ok (.tup [.str "many", .str x]) M := by
  simp only [lens, Bool.and_eq_true, decide_eq_true_eq, List.all_eq_true] at hl
  exact made_er (erIs_some h) hl.1.1 hl.1.2 hl.2 hW
abbrev jb : J := ⟨0, [1], 99⟩
def great (v : Int) : J := if v = 0 then ⟨1000000, [1], 5⟩ else if v = 1 then ⟨0, [1, 1000000], 5⟩ else if v = 2 then ⟨0, [1], 1000000⟩ else ⟨0, [1000000, 1], 5⟩
def more (v : Int) : J := if v = 0 then ⟨1000001, [1], 5⟩ else if v = 1 then ⟨0, [1, 1000001], 5⟩ else ⟨0, [1], 1000001⟩
theorem mulL {x : D} {k : Nat} {M : Store} (h : k ≤ 1000) : binop .mul (.lst [x]) (.int k) M = .ok (.lst (List.replicate k x)) M := by
  rw [mul_li]
  · congr 2
    rw [Int.toNat_natCast]
    clear h
    induction k with
    | zero => rfl
    | succ k ih => rw [List.replicate_succ, List.flatten_cons, ih, List.replicate_succ]; rfl
  · simp only [big, PySem.sizeLine, List.length_cons, List.length_nil, Int.toNat_natCast]; omega
theorem bounded (p : Int × Int × Int) (hW : 100000 < W) : ∃ p', callF P W (n + 6) 17 [.ptr 0] [pu p] = .ok (.bl true) [pu p'] := by
  rw [callF_eq (k := f17) rfl rfl]
  suffices suf : Rt (runSs P W (callF P W (n + 5)) f17.body [some (.ptr 0), none, none, none, none, none] [pu p]) (fun d M' => d = .bl true ∧ ∃ p' R, M' = pu p' :: R) by
    obtain ⟨d, M', e, rfl, p', R, rfl⟩ := suf
    have e' : (List.map some [D.ptr 0] ++ List.replicate (f17.names.length - f17.np) none) = [some (.ptr 0), none, none, none, none, none] := rfl
    refine ⟨p', ?_⟩
    rw [e', e]
    exact finish_rt_cut2 (M := [pu p]) (N := [pu p']) (R := R) rfl rfl rfl (by simp [underO, underDs, underD])
  have hb0 : (0 : Nat) ≤ big := by simp
  have hb1 : (1 : Nat) ≤ big := by simp [big, PySem.sizeLine]
  have hb2 : (2 : Nat) ≤ big := by simp [big, PySem.sizeLine]
  have hb3 : (3 : Nat) ≤ big := by simp [big, PySem.sizeLine]
  have hb4 : (4 : Nat) ≤ big := by simp [big, PySem.sizeLine]
  have w8 : ∀ M x, binop .mul (.lst [x]) (.int 8) M = .ok (.lst (List.replicate 8 x)) M := fun M x => mulL (k := 8) (by omega)
  have w9 : ∀ M x, binop .mul (.lst [x]) (.int 9) M = .ok (.lst (List.replicate 9 x)) M := fun M x => mulL (k := 9) (by omega)
  have w12 : ∀ M x, binop .mul (.lst [x]) (.int 12) M = .ok (.lst (List.replicate 12 x)) M := fun M x => mulL (k := 12) (by omega)
  have w13 : ∀ M x, binop .mul (.lst [x]) (.int 13) M = .ok (.lst (List.replicate 13 x)) M := fun M x => mulL (k := 13) (by omega)
  have qn : ∀ (x : PySem.Str) M, PySem.PyData.strOk x = true → cmpop .ne (.tup [.str "many", .str x]) (.tup [.str "many", .str x]) M = .ok (.bl false) M := fun x M h => ne_same (by simp [top_tup, okd, sk_many, h])
  have qe : ∀ (x : PySem.Str) M, PySem.PyData.strOk x = true → cmpop .eq (.tup [.str "many", .str x]) (.tup [.str "many", .str x]) M = .ok (.bl true) M := fun x M h => eq_same (by simp [top_tup, okd, sk_many, h])
  have qb : ∀ M, cmpop .ne (.str "bench") (.str "bench") M = .ok (.bl false) M := fun M => ne_same (d := .str "bench") sk_bench
  have qj := fun M => qn "jobs" M sk_jobs
  have qs := fun M => qn "sections" M sk_sections
  have ql := fun M => qn "length" M sk_length
  have qt := fun M => qe "stops" M sk_stops
  simp only [f17, b17, rSs_cons, rSs_nil]
  let S1 : Store := [pu p] ++ [benchO (List.replicate 12 jb) (List.replicate 8 1)]
  have m1 : callF P W (n + 5) 13 [.lst (List.replicate 12 (.tup [.int 0, .lst [.int 1], .int 99])), .lst (List.replicate 8 (.int 1))] [pu p] = .ok (.tup [.str "bench", .ptr 1]) S1 := mk_ok (rows := List.replicate 12 jb) (stops := List.replicate 8 1) (by decide +kernel) (by decide +kernel) hW
  have m2 : callF P W (n + 5) 13 [.lst (List.replicate 13 (.tup [.int 0, .lst [.int 1], .int 99])), .lst []] S1 = .ok (.tup [.str "many", .str "jobs"]) S1 := mk_er (rows := List.replicate 13 jb) (stops := []) (by decide +kernel) (by decide +kernel) hW
  let S2 : Store := S1 ++ [benchO [⟨0, List.replicate 8 1, 99⟩] []]
  have m3 : callF P W (n + 5) 13 [.lst [.tup [.int 0, .lst (List.replicate 8 (.int 1)), .int 99]], .lst []] S1 = .ok (.tup [.str "bench", .ptr 2]) S2 := mk_ok (rows := [⟨0, List.replicate 8 1, 99⟩]) (stops := []) (by decide +kernel) (by decide +kernel) hW
  have m4 : callF P W (n + 5) 13 [.lst [.tup [.int 0, .lst [.int 1], .int 99], .tup [.int 0, .lst (List.replicate 9 (.int 1)), .int 99]], .lst [.int 0]] S2 = .ok (.tup [.str "many", .str "sections"]) S2 := mk_er (rows := [jb, ⟨0, List.replicate 9 1, 99⟩]) (stops := [0]) (by decide +kernel) (by decide +kernel) hW
  have m5 : callF P W (n + 5) 13 [.lst (List.replicate 13 (.tup [.int 0, .lst [], .int 99]) ++ [.tup [.int 0, .lst (List.replicate 9 (.int 1)), .int 99]]), .lst (List.replicate 9 (.int 1))] S2 = .ok (.tup [.str "many", .str "jobs"]) S2 := mk_er (rows := List.replicate 13 ⟨0, [], 99⟩ ++ [⟨0, List.replicate 9 1, 99⟩]) (stops := List.replicate 9 1) (by decide +kernel) (by decide +kernel) hW
  have a5 : binop .add (.lst (List.replicate 13 (.tup [.int 0, .lst [], .int 99]))) (.lst [.tup [.int 0, .lst (List.replicate 9 (.int 1)), .int 99]]) S2 = .ok (.lst (List.replicate 13 (.tup [.int 0, .lst [], .int 99]) ++ [.tup [.int 0, .lst (List.replicate 9 (.int 1)), .int 99]])) S2 := addL (by simp) (by simp)
  refine Rt.step [some (.ptr 0), some (.tup [.int 0, .lst [.int 1], .int 99]), none, none, none, none] [pu p] (by simp [hb1, hb3]) ?_
  refine Rt.step [some (.ptr 0), some (.tup [.int 0, .lst [.int 1], .int 99]), none, none, none, none] S1 (by
    simp only [rS_ite, rT_or, rTo_2, rTo_1, rT_cmp, rE_ix, rE_call, rE_bin, rE_int, rE_lst, newL_f, rA_cons, rA_nil, rE_v, rE_tup, rE_str, List.getElem?_cons_zero, List.getElem?_cons_succ, onV_some, zbind_ok, w12, w13, w8, m1, m2, ixd_int, seqOf_tup, onO_some, atI_zero, List.length_cons, List.length_nil, Nat.zero_add, Nat.reduceAdd, hb0, hb1, hb2, hb3, if_true, qb, qj, onB_bl, zwith_ok, Bool.false_eq_true, if_false, rSs_nil]) ?_
  refine Rt.step [some (.ptr 0), some (.tup [.int 0, .lst [.int 1], .int 99]), none, none, none, none] S2 (by
    simp only [rS_ite, rT_or, rTo_2, rTo_1, rT_cmp, rE_ix, rE_call, rE_bin, rE_int, rE_lst, newL_f, rA_cons, rA_nil, rE_v, rE_tup, rE_str, List.getElem?_cons_zero, List.getElem?_cons_succ, onV_some, zbind_ok, w12, w13, w8, w9, m3, m4, ixd_int, seqOf_tup, onO_some, atI_zero, List.length_cons, List.length_nil, Nat.zero_add, Nat.reduceAdd, hb0, hb1, hb2, hb3, if_true, qb, qs, onB_bl, zwith_ok, Bool.false_eq_true, if_false, rSs_nil]) ?_
  refine Rt.step [some (.ptr 0), some (.tup [.int 0, .lst [.int 1], .int 99]), none, none, none, none] S2 (by
    simp only [rS_ite, rT_or, rTo_2, rTo_1, rT_cmp, rE_ix, rE_call, rE_bin, rE_int, rE_lst, newL_f, rA_cons, rA_nil, rE_v, rE_tup, rE_str, List.getElem?_cons_zero, List.getElem?_cons_succ, onV_some, zbind_ok, w12, w13, w8, w9, a5, m5, ixd_int, seqOf_tup, onO_some, atI_zero, List.length_cons, List.length_nil, Nat.zero_add, Nat.reduceAdd, hb0, hb1, hb2, hb3, if_true, qb, qj, onB_bl, zwith_ok, Bool.false_eq_true, if_false, rSs_nil]) ?_
  refine Rt.step [some (.ptr 0), some (.tup [.int 0, .lst [.int 1], .int 99]), some (.int 1000000), none, none, none] S2 (by
    simp only [rS_asg, rE_bin, rE_int, zbind_ok, pow_10_6, zwith_ok]
    rfl) ?_
  refine Rt.step [some (.ptr 0), some (.tup [.int 0, .lst [.int 1], .int 99]), some (.int 1000000), some (.lst [.tup [.int 1000000, .lst [.int 1], .int 5], .tup [.int 0, .lst [.int 1, .int 1000000], .int 5], .tup [.int 0, .lst [.int 1], .int 1000000], .tup [.int 0, .lst [.int 1000000, .int 1], .int 5]]), none, none] S2 (by
    simp only [rS_asg, rE_lst, newL_f, rA_cons, rA_nil, rE_v, rE_int, rE_tup, List.getElem?_cons_zero, List.getElem?_cons_succ, onV_some, zbind_ok, List.length_cons, List.length_nil, Nat.zero_add, Nat.reduceAdd, hb0, hb1, hb2, hb3, hb4, if_true, zwith_ok]
    rfl) ?_
  have hS2 : S2 = pu p :: [benchO (List.replicate 12 jb) (List.replicate 8 1), benchO [⟨0, List.replicate 8 1, 99⟩] []] := rfl
  obtain ⟨v, p1, hv0, hv1, e1⟩ := draw (W := W) (n := n + 4) p 4 (by omega) (by omega) [benchO (List.replicate 12 jb) (List.replicate 8 1), benchO [⟨0, List.replicate 8 1, 99⟩] []]
  rw [← hS2] at e1
  have hgr : L2.atI [D.tup [.int 1000000, .lst [.int 1], .int 5], .tup [.int 0, .lst [.int 1, .int 1000000], .int 5], .tup [.int 0, .lst [.int 1], .int 1000000], .tup [.int 0, .lst [.int 1000000, .int 1], .int 5]] v = some (great v).l ∧ (benchE [great v] [1000000]).isNone = true ∧ lens [great v] [1000000] = true := by
    have : v = 0 ∨ v = 1 ∨ v = 2 ∨ v = 3 := by omega
    rcases this with rfl | rfl | rfl | rfl <;> exact ⟨rfl, by decide +kernel, by decide +kernel⟩
  let S3 : Store := pu p1 :: [benchO (List.replicate 12 jb) (List.replicate 8 1), benchO [⟨0, List.replicate 8 1, 99⟩] []]
  let S4 : Store := S3 ++ [benchO [great v] [1000000]]
  have m6 : callF P W (n + 5) 13 [.lst [(great v).l], .lst [.int 1000000]] S3 = .ok (.tup [.str "bench", .ptr 3]) S4 := mk_ok (rows := [great v]) (stops := [1000000]) hgr.2.1 hgr.2.2 hW
  refine Rt.step [some (.ptr 0), some (.tup [.int 0, .lst [.int 1], .int 99]), some (.int 1000000), some (.lst [.tup [.int 1000000, .lst [.int 1], .int 5], .tup [.int 0, .lst [.int 1, .int 1000000], .int 5], .tup [.int 0, .lst [.int 1], .int 1000000], .tup [.int 0, .lst [.int 1000000, .int 1], .int 5]]), some (great v).l, none] S3 (by
    simp only [rS_asg, rE_ix, rE_call, rA_cons, rA_nil, rE_v, rE_int, List.getElem?_cons_zero, List.getElem?_cons_succ, onV_some, zbind_ok, e1, ixd_int, seqOf_lst, onO_some, hgr.1, zwith_ok]
    rfl) ?_
  refine Rt.step [some (.ptr 0), some (.tup [.int 0, .lst [.int 1], .int 99]), some (.int 1000000), some (.lst [.tup [.int 1000000, .lst [.int 1], .int 5], .tup [.int 0, .lst [.int 1, .int 1000000], .int 5], .tup [.int 0, .lst [.int 1], .int 1000000], .tup [.int 0, .lst [.int 1000000, .int 1], .int 5]]), some (great v).l, none] S4 (by
    simp only [rS_ite, rT_cmp, rE_ix, rE_call, rE_int, rE_lst, newL_f, rA_cons, rA_nil, rE_v, rE_str, List.getElem?_cons_zero, List.getElem?_cons_succ, onV_some, zbind_ok, m6, ixd_int, seqOf_tup, onO_some, atI_zero, List.length_cons, List.length_nil, Nat.zero_add, hb1, if_true, qb, onB_bl, zwith_ok, Bool.false_eq_true, if_false, rSs_nil]) ?_
  obtain ⟨u, p2, hu0, hu1, e2⟩ := draw (W := W) (n := n + 4) p1 3 (by omega) (by omega) [benchO (List.replicate 12 jb) (List.replicate 8 1), benchO [⟨0, List.replicate 8 1, 99⟩] [], benchO [great v] [1000000]]
  let S5 : Store := pu p2 :: [benchO (List.replicate 12 jb) (List.replicate 8 1), benchO [⟨0, List.replicate 8 1, 99⟩] [], benchO [great v] [1000000]]
  have e2' : callF P W (n + 5) 7 [.ptr 0, .int 3] S4 = .ok (.int u) S5 := e2
  have hmo : L2.atI [D.tup [.int 1000001, .lst [.int 1], .int 5], .tup [.int 0, .lst [.int 1, .int 1000001], .int 5], .tup [.int 0, .lst [.int 1], .int 1000001]] u = some (more u).l ∧ erIs (benchE [jb, more u] (List.replicate 9 1)) "length" = true ∧ lens [jb, more u] (List.replicate 9 1) = true := by
    have : u = 0 ∨ u = 1 ∨ u = 2 := by omega
    rcases this with rfl | rfl | rfl <;> exact ⟨rfl, by decide +kernel, by decide +kernel⟩
  have m7 : callF P W (n + 5) 13 [.lst [.tup [.int 0, .lst [.int 1], .int 99], (more u).l], .lst (List.replicate 9 (.int 1))] S5 = .ok (.tup [.str "many", .str "length"]) S5 := mk_er (rows := [jb, more u]) (stops := List.replicate 9 1) hmo.2.1 hmo.2.2 hW
  have m8 : callF P W (n + 5) 13 [.lst [.tup [.int 0, .lst [], .int 0]], .lst [.int 1, .int 1000001]] S5 = .ok (.tup [.str "many", .str "length"]) S5 := mk_er (rows := [⟨0, [], 0⟩]) (stops := [1, 1000001]) (by decide +kernel) (by decide +kernel) hW
  have m9 : callF P W (n + 5) 13 [.lst [.tup [.int 0, .lst [.int 1], .int 99]], .lst (List.replicate 9 (.int 1))] S5 = .ok (.tup [.str "many", .str "stops"]) S5 := mk_er (rows := [jb]) (stops := List.replicate 9 1) (by decide +kernel) (by decide +kernel) hW
  have m10 : callF P W (n + 5) 13 [.lst [.tup [.int 0, .lst [], .int 0]], .lst (List.replicate 9 (.int 0))] S5 = .ok (.tup [.str "many", .str "stops"]) S5 := mk_er (rows := [⟨0, [], 0⟩]) (stops := List.replicate 9 0) (by decide +kernel) (by decide +kernel) hW
  refine Rt.step [some (.ptr 0), some (.tup [.int 0, .lst [.int 1], .int 99]), some (.int 1000000), some (.lst [.tup [.int 1000000, .lst [.int 1], .int 5], .tup [.int 0, .lst [.int 1, .int 1000000], .int 5], .tup [.int 0, .lst [.int 1], .int 1000000], .tup [.int 0, .lst [.int 1000000, .int 1], .int 5]]), some (great v).l, some (more u).l] S5 (by
    simp only [rS_asg, rE_ix, rE_bin, add_ii, Int.reduceAdd, rE_call, rE_lst, newL_f, rE_tup, rA_cons, rA_nil, rE_v, rE_int, List.getElem?_cons_zero, List.getElem?_cons_succ, onV_some, zbind_ok, List.length_cons, List.length_nil, Nat.zero_add, Nat.reduceAdd, hb1, hb2, hb3, if_true, e2', ixd_int, seqOf_lst, onO_some, hmo.1, zwith_ok]
    rfl) ?_
  refine Rt.step [some (.ptr 0), some (.tup [.int 0, .lst [.int 1], .int 99]), some (.int 1000000), some (.lst [.tup [.int 1000000, .lst [.int 1], .int 5], .tup [.int 0, .lst [.int 1, .int 1000000], .int 5], .tup [.int 0, .lst [.int 1], .int 1000000], .tup [.int 0, .lst [.int 1000000, .int 1], .int 5]]), some (great v).l, some (more u).l] S5 (by
    simp only [rS_ite, rT_or, rTo_2, rTo_1, rT_cmp, rE_ix, rE_call, rE_bin, add_ii, Int.reduceAdd, rE_int, rE_lst, newL_f, rA_cons, rA_nil, rE_v, rE_tup, rE_str, List.getElem?_cons_zero, List.getElem?_cons_succ, onV_some, zbind_ok, w9, m7, m8, ixd_int, seqOf_tup, onO_some, atI_zero, List.length_cons, List.length_nil, Nat.zero_add, Nat.reduceAdd, hb0, hb1, hb2, hb3, if_true, ql, onB_bl, zwith_ok, Bool.false_eq_true, if_false, rSs_nil]) ?_
  refine Rt.of (.bl true) S5 (by
    simp only [rS_ret, rE_and, rAnd_2, rAnd_1, rE_cmp, rE_call, rE_bin, rE_int, rE_lst, newL_f, rA_cons, rA_nil, rE_v, rE_tup, rE_str, List.getElem?_cons_zero, List.getElem?_cons_succ, onV_some, zbind_ok, w9, m9, m10, List.length_cons, List.length_nil, Nat.zero_add, Nat.reduceAdd, hb0, hb1, hb2, hb3, if_true, qt, onB_bl, zwith_ok]) ⟨rfl, p2, _, rfl⟩
end K27

/-! AD27 -/
set_option maxRecDepth 100000
set_option maxHeartbeats 4000000
namespace K27
open G
def A (l : List J) : Int := (l.map fun j => j.s + j.x.sum).sum
def Gx (l : List J) (g : Int) : Int := (l.map fun j => j.s + mx j.x).foldl max g
def nd (l : List J) (stops : List Int) : Int := A l + stops.sum - stops.length + stops.length * Gx l 0
theorem need_nd (rows : List J) (stops : List Int) (due : Int) : need rows stops due = nd (duel rows due) stops := by
  unfold need hg nd A Gx
  rw [hg_eq]; simp
theorem A_perm {l l' : List J} (h : l.Perm l') : A l = A l' := by
  induction h with
  | nil => rfl
  | cons x _ ih => simp only [A, List.map_cons, List.sum_cons] at ih ⊢; omega
  | swap x y t => simp only [A, List.map_cons, List.sum_cons]; omega
  | trans _ _ h1 h2 => omega
theorem Gx_perm {l l' : List J} (h : l.Perm l') : ∀ g, Gx l g = Gx l' g := by
  induction h with
  | nil => intro g; rfl
  | cons x _ ih => intro g; exact ih _
  | swap x y t =>
    intro g
    simp only [Gx, List.map_cons, List.foldl_cons]
    congr 1
    omega
  | trans _ _ h1 h2 => intro g; rw [h1, h2]
theorem nd_perm {l l' : List J} {stops : List Int} (h : l.Perm l') : nd l stops = nd l' stops := by
  unfold nd; rw [A_perm h, Gx_perm h]
theorem need_perm {l l' : List J} {stops : List Int} {due : Int} (h : l.Perm l') : need l stops due = need l' stops due := by
  rw [need_nd, need_nd]; exact nd_perm (h.filter _)
/-- a right job but for its due -/
def Jp (j : J) : Prop := 0 ≤ j.s ∧ j.x ≠ [] ∧ ∀ v ∈ j.x, 1 ≤ v
theorem Jp.sum {j : J} (h : Jp j) : 1 ≤ j.s + j.x.sum ∧ 1 ≤ j.s + mx j.x ∧ 0 ≤ j.x.sum := by
  have h1 := (sum_pos h.2.2).mpr h.2.1
  have h2 := mx_pos h.2.1 h.2.2
  have := h.1
  omega
theorem Gx_ge : ∀ (l : List J) (g : Int), g ≤ Gx l g
  | [], g => Int.le_refl _
  | j :: r, g => by
    have := Gx_ge r (max g (j.s + mx j.x))
    have e : Gx (j :: r) g = Gx r (max g (j.s + mx j.x)) := rfl
    omega
theorem Gx_mono : ∀ (l : List J) {g g' : Int}, g ≤ g' → Gx l g ≤ Gx l g'
  | [], g, g', h => h
  | j :: r, g, g', h => Gx_mono r (by omega)
theorem A_nonneg {l : List J} (h : ∀ j ∈ l, Jp j) : 0 ≤ A l := sum_nonneg fun v hv => by
  obtain ⟨j, hj, rfl⟩ := List.mem_map.mp hv
  have := (h j hj).sum
  omega
theorem sub_le {l l' : List J} (h : l.Sublist l') : (∀ j ∈ l', Jp j) → A l ≤ A l' ∧ ∀ g, Gx l g ≤ Gx l' g := by
  induction h with
  | slnil => intro _; exact ⟨Int.le_refl _, fun g => Int.le_refl _⟩
  | cons a _ ih =>
    intro hp
    obtain ⟨h1, h2⟩ := ih fun j hj => hp j (List.mem_cons_of_mem _ hj)
    have := (hp a List.mem_cons_self).sum
    refine ⟨by simp only [A, List.map_cons, List.sum_cons] at h1 ⊢; omega, fun g => ?_⟩
    exact Int.le_trans (h2 g) (Gx_mono _ (by omega))
  | cons_cons a _ ih =>
    intro hp
    obtain ⟨h1, h2⟩ := ih fun j hj => hp j (List.mem_cons_of_mem _ hj)
    refine ⟨by simp only [A, List.map_cons, List.sum_cons] at h1 ⊢; omega, fun g => h2 _⟩
theorem nd_le {l l' : List J} {stops : List Int} (h : A l ≤ A l' ∧ ∀ g, Gx l g ≤ Gx l' g) : nd l stops ≤ nd l' stops := by
  have := Int.mul_le_mul_of_nonneg_left (h.2 0) (show (0 : Int) ≤ (stops.length : Int) by omega)
  have := h.1
  unfold nd
  omega
theorem nd_sub {l l' : List J} {stops : List Int} (h : l.Sublist l') (hp : ∀ j ∈ l', Jp j) : nd l stops ≤ nd l' stops := nd_le (sub_le h hp)
/-- the same set-ups and sections -/
theorem nd_same {l l' : List J} {stops : List Int} (h : l.map (fun j => (j.s, j.x)) = l'.map fun j => (j.s, j.x)) : nd l stops = nd l' stops := by
  have e1 : A l = A l' := by
    have : ∀ l : List J, A l = ((l.map fun j => (j.s, j.x)).map fun q => q.1 + q.2.sum).sum := fun l => by simp [A, Function.comp_def]
    rw [this, this, h]
  have e2 : Gx l 0 = Gx l' 0 := by
    have : ∀ l : List J, Gx l 0 = ((l.map fun j => (j.s, j.x)).map fun q => q.1 + mx q.2).foldl max 0 := fun l => by simp [Gx, Function.comp_def]
    rw [this, this, h]
  unfold nd; rw [e1, e2]
theorem stops_le {stops : List Int} (h : ∀ v ∈ stops, 1 ≤ v) : (stops.length : Int) ≤ stops.sum := by
  induction stops with
  | nil => simp
  | cons a r ih =>
    have := h a List.mem_cons_self
    have := ih fun v hv => h v (List.mem_cons_of_mem _ hv)
    simp; omega
theorem A_le_nd {l : List J} {stops : List Int} (h : ∀ v ∈ stops, 1 ≤ v) : A l ≤ nd l stops := by
  have h1 := stops_le h
  have h2 : 0 ≤ (stops.length : Int) * Gx l 0 := Int.mul_nonneg (by omega) (Gx_ge l 0)
  unfold nd
  omega
theorem A_mem {l : List J} {j : J} (h : ∀ j ∈ l, Jp j) (hj : j ∈ l) : j.s + j.x.sum ≤ A l := mem_le_sum (fun v hv => by
  obtain ⟨j, hj, rfl⟩ := List.mem_map.mp hv
  have := (h j hj).sum
  omega) (List.mem_map_of_mem hj)
section
variable {sj : List J} {stops : List Int} {unit : Int} {t : Nat} {dues : List Int} {ord : List Nat}
theorem take_ones (h : ∀ j ∈ sj, j.d = 1) (i : Nat) : duel (sj.take i) 1 = sj.take i := by
  unfold duel
  rw [List.filter_eq_self]
  intro j hj
  simp [h j (List.mem_of_mem_take hj)]
theorem N_nd (h : ∀ j ∈ sj, j.d = 1) (i : Nat) : N sj stops i = nd (sj.take (i + 1)) stops := by
  unfold N
  rw [need_nd, take_ones h]
theorem N_mono (h : ∀ j ∈ sj, j.d = 1) (hp : ∀ j ∈ sj, Jp j) {i k : Nat} (hik : i ≤ k) : N sj stops i ≤ N sj stops k := by
  rw [N_nd h, N_nd h]
  exact nd_sub (List.take_sublist_take_left (by omega)) fun j hj => hp j (List.mem_of_mem_take hj)
theorem range_take (f : Nat → J) (hf : ∀ i, i < sj.length → (f i).s = (sj.getD i default).s ∧ (f i).x = (sj.getD i default).x) {k : Nat} (hk : k ≤ sj.length) : ((List.range k).map f).map (fun j => (j.s, j.x)) = (sj.take k).map fun j => (j.s, j.x) := by
  apply List.ext_getElem
  · simp; omega
  intro i h1 h2
  simp at h1 h2
  have := hf i (by omega)
  simp [this.1, this.2, List.getD, List.getElem?_eq_getElem (show i < sj.length by omega)]
/-- what is known of the drawn jobs and dues -/
structure Dd (sj : List J) (stops : List Int) (unit : Int) (t : Nat) (dues : List Int) (ord : List Nat) : Prop where
  one : ∀ j ∈ sj, j.d = 1
  jp : ∀ j ∈ sj, Jp j
  sv : ∀ v ∈ stops, 1 ≤ v
  ht : t < sj.length
  du : ∀ i, i < sj.length → DueOk sj stops unit t i (dues.getD i 0)
  ord : ord.Perm (List.range sj.length)
variable (H : Dd sj stops unit t dues ord)
include H
theorem due_ge {i : Nat} (hi : i < sj.length) : N sj stops i ≤ dues.getD i 0 := by
  obtain ⟨e, h0, h1, h2, h3⟩ := H.du i hi
  rw [h3]
  split
  · have := N_mono (stops := stops) H.one H.jp (show i ≤ t by omega); omega
  · omega
theorem due_t : dues.getD t 0 = N sj stops t := by
  obtain ⟨e, h0, h1, h2, h3⟩ := H.du t H.ht
  rw [h3, if_neg (by omega), h2 rfl]; omega
theorem due_le {i : Nat} (hi : i < sj.length) : dues.getD i 0 ≤ N sj stops (sj.length - 1) + 3 * unit - 1 := by
  obtain ⟨e, h0, h1, h2, h3⟩ := H.du i hi
  have := N_mono (stops := stops) H.one H.jp (show i ≤ sj.length - 1 by omega)
  rw [h3]
  split <;> omega
theorem kept_same {i : Nat} : (keptOf sj dues i).s = (sj.getD i default).s ∧ (keptOf sj dues i).x = (sj.getD i default).x := ⟨rfl, rfl⟩
theorem kept_jp {i : Nat} (hi : i < sj.length) : Jp (keptOf sj dues i) := by
  have := H.jp _ (List.getElem_mem hi)
  have e : sj.getD i default = sj[i] := by simp [List.getD, hi]
  unfold keptOf
  rw [e]; exact this
theorem late_jp {i : Nat} (hi : i < sj.length) : Jp (lateOf sj stops t dues i) := by
  have := H.jp _ (List.getElem_mem hi)
  have e : sj.getD i default = sj[i] := by simp [List.getD, hi]
  unfold lateOf
  rw [e]; exact this
theorem kept_need : ∀ k, k < sj.length → need ((List.range sj.length).map (keptOf sj dues)) stops (dues.getD k 0) ≤ dues.getD k 0 := by
  intro k hk
  -- the last place with a due by then
  have hm : ∀ n, k < n → n ≤ sj.length → ∃ m, m < n ∧ dues.getD m 0 ≤ dues.getD k 0 ∧ ∀ i, m < i → i < n → ¬ dues.getD i 0 ≤ dues.getD k 0 := by
    intro n
    induction n with
    | zero => intro h; omega
    | succ n ih =>
      intro h1 h2
      by_cases h : dues.getD n 0 ≤ dues.getD k 0
      · exact ⟨n, by omega, h, fun i h3 h4 => by omega⟩
      · have : k ≠ n := by rintro rfl; exact h (Int.le_refl _)
        obtain ⟨m, e1, e2, e3⟩ := ih (by omega) (by omega)
        refine ⟨m, by omega, e2, fun i h3 h4 => ?_⟩
        by_cases e : i = n
        · subst e; exact h
        · exact e3 i h3 (by omega)
  obtain ⟨m, e1, e2, e3⟩ := hm sj.length hk (Nat.le_refl _)
  rw [need_nd]
  have hsub : (duel ((List.range sj.length).map (keptOf sj dues)) (dues.getD k 0)).Sublist ((List.range (m + 1)).map (keptOf sj dues)) := by
    unfold duel
    rw [List.filter_map]
    refine List.Sublist.map _ ?_
    have hr : List.range sj.length = List.range (m + 1) ++ (List.range (sj.length - (m + 1))).map (m + 1 + ·) := by
      rw [← List.range_add]; congr 1; omega
    rw [hr, List.filter_append]
    have : ((List.range (sj.length - (m + 1))).map (m + 1 + ·)).filter ((fun j : J => decide (j.d ≤ dues.getD k 0)) ∘ keptOf sj dues) = [] := by
      rw [List.filter_eq_nil_iff]
      intro i hi
      obtain ⟨i', hi', rfl⟩ := List.mem_map.mp hi
      have hi' := range_mem hi'
      have := e3 (m + 1 + i') (by omega) (by omega)
      simpa [keptOf] using this
    rw [this, List.append_nil]
    exact List.filter_sublist
  have h1 := nd_sub (stops := stops) hsub fun j hj => by
    obtain ⟨i, hi, rfl⟩ := List.mem_map.mp hj
    exact kept_jp H (by have := range_mem hi; omega)
  have h2 : nd ((List.range (m + 1)).map (keptOf sj dues)) stops = N sj stops m := by
    rw [N_nd H.one]
    exact nd_same (range_take (keptOf sj dues) (fun i hi => ⟨rfl, rfl⟩) (by omega))
  have h3 := due_ge H e1
  omega
theorem late_need : N sj stops t ≤ need ((List.range sj.length).map (lateOf sj stops t dues)) stops (N sj stops t - 1) := by
  rw [need_nd]
  have hsub : ((List.range (t + 1)).map (lateOf sj stops t dues)).Sublist (duel ((List.range sj.length).map (lateOf sj stops t dues)) (N sj stops t - 1)) := by
    unfold duel
    rw [List.filter_map]
    refine List.Sublist.map _ ?_
    have hself : (List.range (t + 1)).filter ((fun j : J => decide (j.d ≤ N sj stops t - 1)) ∘ lateOf sj stops t dues) = List.range (t + 1) := by
      rw [List.filter_eq_self]
      intro i hi
      have hi := range_mem hi
      have : (lateOf sj stops t dues i).d ≤ N sj stops t - 1 := by
        simp only [lateOf]
        rw [if_pos (by omega)]
        omega
      exact decide_eq_true this
    rw [← hself]
    refine List.Sublist.filter _ ?_
    have hr : List.range sj.length = List.range (t + 1) ++ (List.range (sj.length - (t + 1))).map (t + 1 + ·) := by
      rw [← List.range_add]; congr 1; have := H.ht; omega
    rw [hr]
    exact List.sublist_append_left _ _
  have h1 := nd_sub (stops := stops) hsub fun j hj => by
    obtain ⟨i, hi, rfl⟩ := List.mem_map.mp (List.mem_filter.mp hj).1
    exact late_jp H (range_mem hi)
  have h2 : nd ((List.range (t + 1)).map (lateOf sj stops t dues)) stops = N sj stops t := by
    rw [N_nd H.one]
    exact nd_same (range_take (lateOf sj stops t dues) (fun i hi => ⟨rfl, rfl⟩) (by have := H.ht; omega))
  omega
theorem ord_lt {i : Nat} (h : i ∈ ord) : i < sj.length := range_mem (H.ord.mem_iff.mp h)
theorem word_kept : word (ord.map (keptOf sj dues)) stops = .tup [.str "kept"] := by
  unfold word
  rw [List.findSome?_eq_none_iff.mpr]
  · rfl
  intro due hdue
  obtain ⟨j, hj, rfl⟩ := List.mem_map.mp (sortI_mem.mp hdue)
  obtain ⟨i, hi, rfl⟩ := List.mem_map.mp hj
  unfold wordE
  rw [if_neg]
  have h1 := kept_need H i (ord_lt H hi)
  have h2 : need (ord.map (keptOf sj dues)) stops (keptOf sj dues i).d = need ((List.range sj.length).map (keptOf sj dues)) stops (dues.getD i 0) := need_perm (H.ord.map _)
  rw [h2]
  show ¬ dues.getD i 0 < _
  omega
theorem word_late : ∃ a b, word (ord.map (lateOf sj stops t dues)) stops = .tup [.str "late", .int a, .int b] := by
  rcases word_form (rows := ord.map (lateOf sj stops t dues)) (stops := stops) with h | h
  · exfalso
    have htm : t ∈ ord := H.ord.mem_iff.mpr (List.mem_range.mpr H.ht)
    have hd : (lateOf sj stops t dues t).d = N sj stops t - 1 := by
      simp only [lateOf]
      rw [if_pos (Nat.le_refl _), due_t H]
      omega
    have hm : N sj stops t - 1 ∈ sortI ((ord.map (lateOf sj stops t dues)).map J.d) := sortI_mem.mpr (by
      rw [← hd]; exact List.mem_map_of_mem (List.mem_map_of_mem htm))
    have hne : (sortI ((ord.map (lateOf sj stops t dues)).map J.d)).findSome? (wordE (ord.map (lateOf sj stops t dues)) stops) ≠ none := by
      intro e
      have := List.findSome?_eq_none_iff.mp e _ hm
      unfold wordE at this
      rw [if_pos] at this
      · cases this
      · have h1 := late_need H
        rw [need_perm (H.ord.map (lateOf sj stops t dues))]
        omega
    unfold word at h
    cases e : (sortI ((ord.map (lateOf sj stops t dues)).map J.d)).findSome? (wordE (ord.map (lateOf sj stops t dues)) stops) with
    | none => exact hne e
    | some d =>
      rw [e] at h
      obtain ⟨due, _, e'⟩ := List.exists_of_findSome?_eq_some e
      unfold wordE at e'
      split at e'
      · cases e'
        simp at h
      · cases e'
  · exact h
/-- all is within the bounds -/
theorem rows_fine (hfit : N sj stops (sj.length - 1) + 3 * unit ≤ 1000001) (hu : 1 ≤ unit) (h2 : 2 ≤ N sj stops 0) (h8 : ∀ j ∈ sj, j.x.length ≤ 8) : (∀ j ∈ ord.map (keptOf sj dues), j.ok ∧ JB j) ∧ ∀ j ∈ ord.map (lateOf sj stops t dues), j.ok ∧ JB j := by
  have hN2 : ∀ i, 2 ≤ N sj stops i := fun i => by
    have := N_mono (stops := stops) H.one H.jp (Nat.zero_le i); omega
  have hA : A sj ≤ N sj stops (sj.length - 1) := by
    have := H.ht
    rw [N_nd H.one, List.take_of_length_le (by omega)]
    exact A_le_nd H.sv
  have hpart : ∀ i, i < sj.length → 0 ≤ (sj.getD i default).s ∧ (sj.getD i default).x ≠ [] ∧ (∀ v ∈ (sj.getD i default).x, 1 ≤ v ∧ v ≤ 1000000) ∧ (sj.getD i default).s ≤ 1000000 ∧ (sj.getD i default).x.length ≤ 8 := by
    intro i hi
    have e : sj.getD i default = sj[i] := by simp [List.getD, hi]
    rw [e]
    have hm := List.getElem_mem hi
    have hj := H.jp _ hm
    have h1 := A_mem H.jp hm
    have h3 := hj.sum
    have h4 := hj.1
    refine ⟨hj.1, hj.2.1, fun v hv => ⟨hj.2.2 v hv, ?_⟩, by omega, h8 _ hm⟩
    have := mem_le_sum (fun v hv => by have := hj.2.2 v hv; omega) hv
    omega
  have hd2 : ∀ i, i < sj.length → 2 ≤ dues.getD i 0 := fun i hi => by
    have := due_ge H hi
    have := hN2 i
    omega
  have hd3 : ∀ i, i < sj.length → dues.getD i 0 ≤ 1000000 := fun i hi => by
    have := due_le H hi
    omega
  refine ⟨fun j hj => ?_, fun j hj => ?_⟩
  · obtain ⟨i, hi, rfl⟩ := List.mem_map.mp hj
    have hi := ord_lt H hi
    obtain ⟨p1, p2, p3, p4, p5⟩ := hpart i hi
    exact ⟨⟨p1, p2, fun v hv => (p3 v hv).1, by have := hd2 i hi; show 1 ≤ dues.getD i 0; omega⟩, ⟨p5, p4, hd3 i hi, fun v hv => (p3 v hv).2⟩⟩
  · obtain ⟨i, hi, rfl⟩ := List.mem_map.mp hj
    have hi := ord_lt H hi
    obtain ⟨p1, p2, p3, p4, p5⟩ := hpart i hi
    have q1 := hd2 i hi
    have q2 := hd3 i hi
    have q3 := hN2 t
    have q4 : 1 ≤ (lateOf sj stops t dues i).d ∧ (lateOf sj stops t dues i).d ≤ 1000000 := by
      simp only [lateOf]
      split <;> omega
    exact ⟨⟨p1, p2, fun v hv => (p3 v hv).1, q4.1⟩, ⟨p5, p4, q4.2, fun v hv => (p3 v hv).2⟩⟩
end
end K27

/-! AE27 -/
set_option maxRecDepth 100000
set_option maxHeartbeats 4000000
namespace K27
open G
variable {W : Nat}
variable {n : Nat} {M : Store}
theorem map_sum (u : Int) : ∀ l : List Int, (l.map (u * ·)).sum = u * l.sum
  | [] => by simp
  | a :: r => by simp [map_sum u r, Int.mul_add]
theorem A_sc (u : Int) (l : List J) : A (l.map (sc u)) = u * A l := by
  unfold A
  induction l with
  | nil => simp
  | cons a r ih => simp only [List.map_cons, List.sum_cons, ih, Int.mul_add]; simp only [sc, map_sum]
theorem mx_sc {u : Int} (hu : 0 ≤ u) {x : List Int} (hx : x ≠ []) : mx (x.map (u * ·)) ≤ u * mx x := by
  have h1 := List.max?_mem (mx_some (l := x.map (u * ·)) (by simpa using hx))
  obtain ⟨v, hv, e⟩ := List.mem_map.mp h1
  rw [← e]
  exact Int.mul_le_mul_of_nonneg_left ((List.max?_eq_some_iff.mp (mx_some hx)).2 v hv) hu
theorem Gx_sc {u : Int} (hu : 0 ≤ u) : ∀ (l : List J) (g g' : Int), (∀ j ∈ l, j.x ≠ []) → g' ≤ u * g → Gx (l.map (sc u)) g' ≤ u * Gx l g
  | [], g, g', _, h => h
  | j :: r, g, g', hx, h => by
    refine Gx_sc hu r (max g (j.s + mx j.x)) (max g' ((sc u j).s + mx (sc u j).x)) (fun k hk => hx k (List.mem_cons_of_mem _ hk)) ?_
    have h1 := mx_sc hu (hx j List.mem_cons_self)
    have h2 : u * g ≤ u * max g (j.s + mx j.x) := Int.mul_le_mul_of_nonneg_left (by omega) hu
    have h3 : u * (j.s + mx j.x) ≤ u * max g (j.s + mx j.x) := Int.mul_le_mul_of_nonneg_left (by omega) hu
    rw [Int.mul_add] at h3
    show max g' (u * j.s + mx (j.x.map (u * ·))) ≤ _
    omega
theorem nd_sc {u : Int} (hu : 0 ≤ u) {l : List J} {stops stops' : List Int} (hx : ∀ j ∈ l, j.x ≠ []) (h1 : stops'.length = stops.length) (h2 : stops'.sum = u * stops.sum) : nd (l.map (sc u)) stops' ≤ u * (nd l stops + stops.length) - stops.length := by
  unfold nd
  rw [A_sc, h1, h2]
  have h3 := Int.mul_le_mul_of_nonneg_left (Gx_sc hu l 0 0 hx (by simp)) (show (0 : Int) ≤ (stops.length : Int) by omega)
  have e : u * (A l + stops.sum - stops.length + stops.length * Gx l 0 + stops.length) = u * A l + u * stops.sum + stops.length * (u * Gx l 0) := by
    rw [show A l + stops.sum - (stops.length : Int) + stops.length * Gx l 0 + stops.length = A l + stops.sum + stops.length * Gx l 0 by omega, Int.mul_add, Int.mul_add, Int.mul_left_comm]
  rw [e]
  omega
theorem Gx_bd {B : Int} : ∀ (l : List J) (g : Int), g ≤ B → (∀ j ∈ l, j.s + mx j.x ≤ B) → Gx l g ≤ B
  | [], g, h, _ => h
  | j :: r, g, h, hb => Gx_bd r (max g (j.s + mx j.x)) (by have := hb j List.mem_cons_self; omega) fun k hk => hb k (List.mem_cons_of_mem _ hk)
theorem bare_nd {jobs : List J} {stops : List Int} (hl : jobs.length ≤ 12) (hB : ∀ j ∈ jobs, Bare j) (hs : stops.length ≤ 3) (hv : ∀ v ∈ stops, 1 ≤ v ∧ v ≤ 4) : 0 ≤ nd jobs stops ∧ nd jobs stops ≤ 660 := by
  have hx : ∀ j ∈ jobs, 0 ≤ j.s + j.x.sum ∧ j.s + j.x.sum ≤ 51 ∧ j.s + mx j.x ≤ 9 := by
    intro j hj
    obtain ⟨h1, h2, h3, h4, h5, _⟩ := hB j hj
    have := sum_bd h5
    have := (h5 _ (List.max?_mem (mx_some h3))).2
    omega
  have h1 := sum_bd (l := jobs.map fun j => j.s + j.x.sum) (a := 0) (b := 51) fun v hv => by
    obtain ⟨j, hj, rfl⟩ := List.mem_map.mp hv
    have := hx j hj; omega
  have h2 := Gx_bd (B := 9) jobs 0 (by omega) fun j hj => (hx j hj).2.2
  have h0 := Gx_ge jobs 0
  have h3 := sum_bd hv
  have h4 := Int.mul_le_mul_of_nonneg_left h2 (show (0 : Int) ≤ (stops.length : Int) by omega)
  have h5 := Int.mul_nonneg (show (0 : Int) ≤ (stops.length : Int) by omega) h0
  have eA : A jobs = (jobs.map fun j => j.s + j.x.sum).sum := rfl
  simp only [List.length_map] at h1
  unfold nd
  omega
theorem jp_sc {u : Int} (hu : 1 ≤ u) {j : J} (h : Bare j) : Jp (sc u j) := by
  obtain ⟨h1, h2, h3, h4, h5, _⟩ := h
  refine ⟨Int.mul_nonneg (by omega) h1, by simpa [sc] using h3, fun v hv => ?_⟩
  obtain ⟨w, hw, rfl⟩ := List.mem_map.mp hv
  have := Int.mul_le_mul_of_nonneg_right hu (show (0 : Int) ≤ w by have := (h5 w hw).1; omega)
  have := (h5 w hw).1
  show 1 ≤ u * w
  omega
theorem pick8 {v : Int} (h0 : 0 ≤ v) (h1 : v < 8) : ∃ m : Nat, 1 ≤ m ∧ m ≤ 12 ∧ L2.atI [D.int 1, D.int 2, D.int 3, D.int 4, D.int 5, D.int 3, D.int 2, D.int 12] v = some (.int m) := by
  have : v = 0 ∨ v = 1 ∨ v = 2 ∨ v = 3 ∨ v = 4 ∨ v = 5 ∨ v = 6 ∨ v = 7 := by omega
  rcases this with rfl | rfl | rfl | rfl | rfl | rfl | rfl | rfl
  · exact ⟨1, by omega, by omega, rfl⟩
  · exact ⟨2, by omega, by omega, rfl⟩
  · exact ⟨3, by omega, by omega, rfl⟩
  · exact ⟨4, by omega, by omega, rfl⟩
  · exact ⟨5, by omega, by omega, rfl⟩
  · exact ⟨3, by omega, by omega, rfl⟩
  · exact ⟨2, by omega, by omega, rfl⟩
  · exact ⟨12, by omega, by omega, rfl⟩
theorem rngI_int {k : Int} (h0 : 0 ≤ k) (h1 : k ≤ 1000000) : ∀ M, rngI k M = .ok (.items ((List.range k.toNat).map fun (i : Nat) => D.int (i : Int))) M := fun M => by
  have := rngI_nat (k := k.toNat) (M := M) (by omega)
  rw [Int.toNat_of_nonneg h0] at this
  exact this
theorem eq_word_kept {M : Store} : cmpop .ne (.tup [.str "kept"]) (.tup [.str "kept"]) M = .ok (.bl false) M := ne_same (by simp [top_tup, okd, sk_kept])
theorem word_nil {stops : List Int} : word [] stops = .tup [.str "kept"] := by
  unfold word
  have : sortI (([] : List J).map J.d) = [] := by simp [sortI]
  rw [this]; rfl
theorem law_holds (ns : List Int) (hW : 100000 < W) : ∃ M, callF P W (n + 7) 22 [.scr ns] [] = .ok (.bl true) M := by
  rw [callF_eq (k := f22) rfl rfl]
  suffices suf : Rt (runSs P W (callF P W (n + 6)) f22.body [some (.scr ns), none, none, none, none, none, none, none, none, none, none, none] []) (fun d M' => d = .bl true) by
    obtain ⟨d, M', e, rfl⟩ := suf
    have e' : (List.map some [D.scr ns] ++ List.replicate (f22.names.length - f22.np) none) = [some (.scr ns), none, none, none, none, none, none, none, none, none, none, none] := rfl
    rw [e', e]
    unfold finish
    exact ⟨_, rfl⟩
  simp only [f22, b22, rSs_cons, rSs_nil]
  obtain ⟨p0, e0⟩ := purse (W := W) (n := n + 5) ns
  refine Rt.step [some (.scr ns), some (.ptr 0), none, none, none, none, none, none, none, none, none, none] [pu p0] (by simp [e0]) ?_
  obtain ⟨v1, p1, h10, h11, e1⟩ := draw (W := W) (n := n + 5) p0 8 (by omega) (by omega) []
  obtain ⟨m, hm1, hm2, em⟩ := pick8 h10 h11
  have hb8 : (8 : Nat) ≤ big := by simp [big, PySem.sizeLine]
  have hb1 : (1 : Nat) ≤ big := by simp [big, PySem.sizeLine]
  have hb3 : (3 : Nat) ≤ big := by simp [big, PySem.sizeLine]
  refine Rt.step [some (.scr ns), some (.ptr 0), some (.int m), none, none, none, none, none, none, none, none, none] [pu p1] (by simp [e1, hb8, em]) ?_
  obtain ⟨jobs, p2, hjl, hjB, hjH, e2⟩ := bare_jobs (W := W) (n := n + 4) p1 m (by omega)
  refine Rt.step [some (.scr ns), some (.ptr 0), some (.int m), some (.lst (jobs.map J.b)), none, none, none, none, none, none, none, none] [pu p2] (by simp [e2]) ?_
  obtain ⟨k3, p3, h30, h31, e3⟩ := draw (W := W) (n := n + 5) p2 4 (by omega) (by omega) []
  obtain ⟨stops, N4, e4, ⟨p4, rfl⟩, hsl, hsv⟩ := lcA_ints (l := List.range k3.toNat) (f := lcT P W (callF P W (n + 6)) [some (.scr ns), some (.ptr 0), some (.int m), some (.lst (jobs.map J.b)), none, none, none, none, none, none, none, none] (.n 9) .nil (.bin .add (.int 1) (.call 7 (.cons (.v 1) (.cons (.int 4) .nil))))) (g := fun (i : Nat) => D.int (i : Int)) (fun N => ∃ p, N = [pu p]) (fun v => 1 ≤ v ∧ v ≤ 4) (fun i _ N hN => by
    obtain ⟨v, N', h0, h1, e, hN'⟩ := drawn (W := W) (n := n + 5) 4 (by omega) (by omega) hN
    refine ⟨1 + v, N', ?_, hN', by omega, by omega⟩
    simp [lcT_app, gslots, wipeR, e]) (M := [pu p3]) ⟨p3, rfl⟩ (by simp [big, PySem.sizeLine]; omega)
  have hsl3 : stops.length ≤ 3 := by simp at hsl; omega
  have r3 := rngI_int h30 (by omega)
  refine Rt.step [some (.scr ns), some (.ptr 0), some (.int m), some (.lst (jobs.map J.b)), some (.lst (il stops)), none, none, none, none, none, none, none] [pu p4] (by
    simp [e3, r3]
    simp only [e4, zbind_ok, newL_f, zwith_ok]) ?_
  refine Rt.step [some (.scr ns), some (.ptr 0), some (.int m), some (.lst (jobs.map J.b)), some (.lst (il stops)), some (.int 1), none, none, none, none, none, none] [pu p4] (by simp) ?_
  have hnd := bare_nd (by omega) hjB hsl3 hsv
  have hjd : ∀ j ∈ jobs, j.d = 1 := fun j hj => (hjB j hj).2.2.2.2.2
  have hjx : ∀ j ∈ jobs, j.x ≠ [] := fun j hj => (hjB j hj).2.2.1
  have hneed : need jobs stops 1 = nd jobs stops := by
    rw [need_nd]
    congr 1
    unfold duel
    rw [List.filter_eq_self]
    intro j hj
    simp [hjd j hj]
  obtain ⟨v5, p5, h50, h51, e5⟩ := draw (W := W) (n := n + 5) p4 4 (by omega) (by omega) []
  refine Rt.then (I := fun ρ M => ∃ (unit : Int) (stops' : List Int) (p : Int × Int × Int) (a b c d : Option D), ρ = [some (.scr ns), some (.ptr 0), some (.int m), some (.lst (jobs.map J.b)), some (.lst (il stops')), some (.int unit), a, none, none, b, c, d] ∧ M = [pu p] ∧ 1 ≤ unit ∧ unit * (nd jobs stops + stops.length + 8) ≤ 1000000 ∧ stops'.length = stops.length ∧ stops'.sum = unit * stops.sum ∧ ∀ v ∈ stops', 1 ≤ v ∧ v ≤ 4 * unit) ?_ ?_
  · by_cases h : v5 = 0
    · subst h
      have ci := lcA_map (l := jobs) (acc := []) (f := lcT P W (callF P W (n + 6)) [some (.scr ns), some (.ptr 0), some (.int m), some (.lst (jobs.map J.b)), some (.lst (il stops)), some (.int 1), none, none, none, none, none, none] (.n 11) .nil (.tup (.cons (.ix (.v 11) (.int 0)) (.cons (.ix (.v 11) (.int 1)) (.cons (.int 1) .nil))))) (g := J.b) (k := J.l) (M := [pu p5]) (fun j hj => by
        have hx1 : ∀ a b : D, L2.atI [a, b] 1 = some b := fun _ _ => rfl
        simp [lcT_app, gslots, wipeR, J.b, atI_zero, hx1, hb3, J.l, hjd j hj]) (by simp [big, PySem.sizeLine]; omega)
      rw [List.nil_append] at ci
      have hn9 := law_need (W := W) (n := n + 5) (M := [pu p5]) jobs stops 1 hjx (by omega)
      rw [hneed] at hn9
      have hsl' : (il stops).length = stops.length := by simp
      simp only [rS_ite, rT_cmp, rE_call, rE_int, rA_cons, rA_nil, rE_v, List.getElem?_cons_zero, List.getElem?_cons_succ, onV_some, zbind_ok, e5, eq_ii, onB_bl, zwith_ok, beq_self_eq_true, if_true, rSs_cons, rSs_nil]
      let span : Int := nd jobs stops + stops.length + 8
      refine Nx.step [some (.scr ns), some (.ptr 0), some (.int m), some (.lst (jobs.map J.b)), some (.lst (il stops)), some (.int 1), some (.int span), none, none, none, none, none] [pu p5] (by
        simp only [rS_asg, rE_bin, rE_call, rE_int, rE_lc, rI_val, walk_lst, onO_some, lcW_items, newL_f, ci, hn9, rE_bi, bi_len, seqOf_lst, hsl', add_ii, rA_cons, rA_nil, rE_v, List.getElem?_cons_zero, List.getElem?_cons_succ, onV_some, zbind_ok, zwith_ok]
        rfl) ?_
      have hsp : 8 ≤ span ∧ span ≤ 700 := by simp only [span]; omega
      have hq : 1000000 / span * span ≤ 1000000 := Int.ediv_mul_le _ (by omega)
      have hq1 : 1 ≤ 1000000 / span := Int.le_ediv_of_mul_le (by omega) (by omega)
      have hq2 : 1000000 / span ≤ 1000000 := Int.ediv_le_self _ (by omega)
      obtain ⟨v6, p6, h60, h61, e6⟩ := draw (W := W) (n := n + 5) p5 (1000000 / span) (by omega) (by omega) []
      have hfd : ∀ M, binop .fdiv (.int 1000000) (.int span) M = .ok (.int (1000000 / span)) M := fun M => fdiv_ii (by omega)
      refine Nx.step [some (.scr ns), some (.ptr 0), some (.int m), some (.lst (jobs.map J.b)), some (.lst (il stops)), some (.int (1 + v6)), some (.int span), none, none, none, none, none] [pu p6] (by
        simp only [rS_asg, rE_bin, rE_call, rE_int, pow_10_6, hfd, e6, add_ii, rA_cons, rA_nil, rE_v, List.getElem?_cons_zero, List.getElem?_cons_succ, onV_some, zbind_ok, zwith_ok]
        rfl) ?_
      have cs := lcA_map (l := stops) (acc := []) (f := lcT P W (callF P W (n + 6)) [some (.scr ns), some (.ptr 0), some (.int m), some (.lst (jobs.map J.b)), some (.lst (il stops)), some (.int (1 + v6)), some (.int span), none, none, none, none, none] (.n 10) .nil (.bin .mul (.v 5) (.v 10))) (g := D.int) (k := fun v => D.int ((1 + v6) * v)) (M := [pu p6]) (fun v _ => by
        have hm : ∀ M, binop .mul (.int (1 + v6)) (.int v) M = .ok (.int ((1 + v6) * v)) M := fun M => mul_ii (.inl ⟨by omega, by omega⟩)
        simp [lcT_app, gslots, wipeR, hm]) (by simp [big, PySem.sizeLine]; omega)
      rw [List.nil_append] at cs
      have ecs : (stops.map fun v => D.int ((1 + v6) * v)) = il (stops.map ((1 + v6) * ·)) := by simp
      rw [ecs] at cs
      have hmul : (1 + v6) * span ≤ 1000000 / span * span := Int.mul_le_mul_of_nonneg_right (by omega) (by omega)
      refine Nx.last (Nx.of [some (.scr ns), some (.ptr 0), some (.int m), some (.lst (jobs.map J.b)), some (.lst (il (stops.map ((1 + v6) * ·)))), some (.int (1 + v6)), some (.int span), none, none, none, none, none] [pu p6] (by
        simp only [rS_asg, rE_lc, rI_val, walk_lst, onO_some, lcW_items, newL_f, cs, rE_v, List.getElem?_cons_zero, List.getElem?_cons_succ, onV_some, zbind_ok, zwith_ok]
        rfl) ⟨1 + v6, stops.map ((1 + v6) * ·), p6, _, _, _, _, rfl, rfl, by omega, by simp only [span] at hmul hq; omega, by simp, map_sum _ _, fun v hv => ?_⟩)
      obtain ⟨w, hw, rfl⟩ := List.mem_map.mp hv
      have h1 := hsv w hw
      have h2 := Int.mul_le_mul_of_nonneg_left (show w ≤ 4 from h1.2) (show (0 : Int) ≤ 1 + v6 by omega)
      have h3 := Int.mul_le_mul_of_nonneg_left (show 1 ≤ w from h1.1) (show (0 : Int) ≤ 1 + v6 by omega)
      omega
    · refine Nx.of [some (.scr ns), some (.ptr 0), some (.int m), some (.lst (jobs.map J.b)), some (.lst (il stops)), some (.int 1), none, none, none, none, none, none] [pu p5] (by simp [e5, h]) ⟨1, stops, p5, _, _, _, _, rfl, rfl, by omega, by omega, rfl, by omega, fun v hv => hsv v hv⟩
  rintro ρ M ⟨unit, stops', p, a, b, c, d, rfl, rfl, hu, hspan, hs1, hs2, hs3⟩
  have hu8 : 8 * unit ≤ 1000000 := by
    have := Int.mul_le_mul_of_nonneg_left (show (8 : Int) ≤ nd jobs stops + stops.length + 8 by omega) (show 0 ≤ unit by omega)
    omega
  have hjn : jobs ≠ [] := by intro h; subst h; simp at hjl; omega
  obtain ⟨t, dues, ord, p6, ht, hdl, hdo, hord, e6⟩ := dued (W := W) (n := n + 3) p jobs stops' unit (fun j hj => ⟨hjx j hj, by have := (hjB j hj).2.2.2.1; omega⟩) hjn (by omega) (by omega) ⟨hu, by omega⟩
  have hH : Dd (jobs.map (sc unit)) stops' unit t dues ord := ⟨fun j hj => by obtain ⟨j', _, rfl⟩ := List.mem_map.mp hj; rfl, fun j hj => by obtain ⟨j', hj', rfl⟩ := List.mem_map.mp hj; exact jp_sc hu (hjB j' hj'), fun v hv => (hs3 v hv).1, by simpa using ht, by simpa using hdo, by simpa using hord⟩
  have hN : N (jobs.map (sc unit)) stops' ((jobs.map (sc unit)).length - 1) = nd (jobs.map (sc unit)) stops' := by
    rw [N_nd hH.one, List.take_of_length_le (by omega)]
  have hN0 : 2 ≤ N (jobs.map (sc unit)) stops' 0 := by
    rw [N_nd hH.one]
    have h1 := A_le_nd (l := (jobs.map (sc unit)).take (0 + 1)) hH.sv
    cases hj0 : jobs with
    | nil => exact absurd hj0 hjn
    | cons j r =>
      rw [hj0] at h1
      obtain ⟨v, xs, e, hv⟩ := hjH j r hj0
      have hB := hjB j (by rw [hj0]; exact List.mem_cons_self)
      have hJ := jp_sc hu hB
      have h2 : A ((List.map (sc unit) (j :: r)).take (0 + 1)) = (sc unit j).s + (sc unit j).x.sum := by simp [A]
      have h3 : (sc unit j).x.sum = unit * (v + xs.sum) := by simp only [sc, map_sum, e, List.sum_cons]
      have h4 : 0 ≤ xs.sum := sum_nonneg fun w hw => by
        have := (hB.2.2.2.2.1 w (by rw [e]; exact List.mem_cons_of_mem _ hw)).1; omega
      have h5 := Int.mul_le_mul_of_nonneg_right hu (show 0 ≤ v + xs.sum by omega)
      have h6 := hJ.1
      omega
  have hfit : N (jobs.map (sc unit)) stops' ((jobs.map (sc unit)).length - 1) + 3 * unit ≤ 1000001 := by
    rw [hN]
    have h1 := nd_sc (show 0 ≤ unit by omega) hjx hs1 hs2
    have h2 : unit * (nd jobs stops + stops.length + 8) = unit * (nd jobs stops + stops.length) + unit * 8 := Int.mul_add _ _ _
    omega
  obtain ⟨hkf, hlf⟩ := rows_fine hH hfit hu hN0 (fun j hj => by obtain ⟨j', hj', rfl⟩ := List.mem_map.mp hj; have := (hjB j' hj').2.2.2.1; simpa [sc] using this)
  have hwk := word_kept hH
  obtain ⟨la, lb, hwl⟩ := word_late hH
  have hol : ord.length = jobs.length := by simpa using hord.length_eq
  generalize hK : ord.map (keptOf (jobs.map (sc unit)) dues) = kept at e6 hkf hwk
  generalize hL : ord.map (lateOf (jobs.map (sc unit)) stops' t dues) = late at e6 hlf hwl
  have hkl : kept.length ≤ 12 := by rw [← hK]; simp; omega
  have hll : late.length ≤ 12 := by rw [← hL]; simp; omega
  have hln : late ≠ [] := by
    rw [← hL]
    intro h
    have := congrArg List.length h
    simp only [List.length_map, List.length_nil] at this
    omega
  have hsB : SB stops' := ⟨by omega, fun v hv => by have := (hs3 v hv).2; omega⟩
  have hsv' : ∀ v ∈ stops', 1 ≤ v := fun v hv => (hs3 v hv).1
  have kE := bench_ok hkl (fun j hj => (hkf j hj).2) (fun j hj => (hkf j hj).1) hsB hsv'
  have lE := bench_ok hll (fun j hj => (hlf j hj).2) (fun j hj => (hlf j hj).1) hsB hsv'
  have nE := bench_ok (rows := []) (by simp) (by simp) (by simp) hsB hsv'
  have hwK := law_word (W := W) (n := n + 4) (M := [pu p6]) kept stops' (fun j hj => (hkf j hj).1.2.1) (by omega) (by omega)
  have hwL := law_word (W := W) (n := n + 4) (M := [pu p6]) late stops' (fun j hj => (hlf j hj).1.2.1) (by omega) (by omega)
  have aK := asked (W := W) (n := n) p6 kept stops' (fun j hj => ⟨(hkf j hj).1, by have := (hkf j hj).2.l; omega⟩) (by omega) (by omega) kE hW
  have aL := asked (W := W) (n := n) p6 late stops' (fun j hj => ⟨(hlf j hj).1, by have := (hlf j hj).2.l; omega⟩) (by omega) (by omega) lE hW
  have aN := asked (W := W) (n := n) p6 [] stops' (by simp) (by simp) (by omega) nE hW
  rw [hwk] at hwK aK
  rw [hwl] at hwL aL
  rw [word_nil] at aN
  have a0 : ∀ a b c : D, L2.atI [a, b, c] 0 = some a := fun _ _ _ => rfl
  refine Rt.step [some (.scr ns), some (.ptr 0), some (.int m), some (.lst (jobs.map J.b)), some (.lst (il stops')), some (.int unit), a, some (.lst (kept.map J.l)), some (.lst (late.map J.l)), b, c, d] [pu p6] (by
    simp only [rS_asgT, rE_call, rA_cons, rA_nil, rE_v, List.getElem?_cons_zero, List.getElem?_cons_succ, onV_some, zbind_ok, e6, zwith_ok]
    rfl) ?_
  have n1 := eq_word_kept (M := [pu p6])
  have n2 := ne_ss (M := [pu p6]) sk_late sk_late
  refine Rt.step [some (.scr ns), some (.ptr 0), some (.int m), some (.lst (jobs.map J.b)), some (.lst (il stops')), some (.int unit), a, some (.lst (kept.map J.l)), some (.lst (late.map J.l)), b, c, d] [pu p6] (by
    simp only [rS_ite, rT_or, rTo_2, rTo_1, rT_cmp, rE_ix, rE_call, rE_int, rA_cons, rA_nil, rE_v, rE_tup, rE_str, List.getElem?_cons_zero, List.getElem?_cons_succ, onV_some, zbind_ok, hwK, hwL, ixd_int, seqOf_tup, onO_some, a0, List.length_cons, List.length_nil, Nat.zero_add, hb1, if_true, n1, n2, onB_bl, zwith_ok, beq_self_eq_true, Bool.not_true, Bool.false_eq_true, if_false, rSs_nil]) ?_
  refine Rt.step [some (.scr ns), some (.ptr 0), some (.int m), some (.lst (jobs.map J.b)), some (.lst (il stops')), some (.int unit), a, some (.lst (kept.map J.l)), some (.lst (late.map J.l)), b, c, d] [pu p6] (by
    simp only [rS_ite, rT_or, rTo_2, rTo_1, rT_not, rT_val, rE_call, rA_cons, rA_nil, rE_v, rE_tup, rE_str, List.getElem?_cons_zero, List.getElem?_cons_succ, onV_some, zbind_ok, hwL, aK, aL, onO_some, truth_bl, List.length_cons, List.length_nil, Nat.zero_add, hb1, if_true, zwith_ok, Bool.not_true, Bool.false_eq_true, if_false, rSs_nil]) ?_
  have aN' : callF P W (n + 6) 14 [.lst [], .lst (il stops'), .tup [.str "kept"]] [pu p6] = _ := aN
  refine Rt.step [some (.scr ns), some (.ptr 0), some (.int m), some (.lst (jobs.map J.b)), some (.lst (il stops')), some (.int unit), a, some (.lst (kept.map J.l)), some (.lst (late.map J.l)), b, c, d] [pu p6] (by
    simp only [rS_ite, rT_not, rT_val, rE_call, rE_lst, newL_f, rA_cons, rA_nil, rE_v, rE_tup, rE_str, List.getElem?_cons_zero, List.getElem?_cons_succ, onV_some, zbind_ok, aN', onO_some, truth_bl, List.length_cons, List.length_nil, Nat.zero_add, Nat.zero_le, hb1, if_true, zwith_ok, Bool.not_true, Bool.false_eq_true, if_false, rSs_nil]) ?_
  obtain ⟨p7, e7⟩ := refused (W := W) (n := n) p6 late stops' hln hll (fun j hj => (hlf j hj).1) (fun j hj => (hlf j hj).2) (by omega) (fun v hv => ⟨hsv' v hv, hsB.v v hv⟩) hW
  obtain ⟨p8, e8⟩ := bounded (W := W) (n := n) p7 hW
  refine Rt.step [some (.scr ns), some (.ptr 0), some (.int m), some (.lst (jobs.map J.b)), some (.lst (il stops')), some (.int unit), a, some (.lst (kept.map J.l)), some (.lst (late.map J.l)), b, c, d] [pu p8] (by
    simp only [rS_ite, rT_or, rTo_2, rTo_1, rT_not, rT_val, rE_call, rA_cons, rA_nil, rE_v, List.getElem?_cons_zero, List.getElem?_cons_succ, onV_some, zbind_ok, e7, e8, onO_some, truth_bl, zwith_ok, Bool.not_true, Bool.false_eq_true, if_false, rSs_nil]) ?_
  obtain ⟨k9, p9, h90, h91, e9⟩ := draw (W := W) (n := n + 5) p8 3 (by omega) (by omega) []
  obtain ⟨stops2, N10, e10, ⟨p10, rfl⟩, hsl2, hsv2⟩ := lcA_ints (l := List.range k9.toNat) (f := lcT P W (callF P W (n + 6)) [some (.scr ns), some (.ptr 0), some (.int m), some (.lst (jobs.map J.b)), some (.lst (il stops')), some (.int unit), a, some (.lst (kept.map J.l)), some (.lst (late.map J.l)), b, c, d] (.n 9) .nil (.bin .add (.int 1) (.call 7 (.cons (.v 1) (.cons (.int 5) .nil))))) (g := fun (i : Nat) => D.int (i : Int)) (fun N => ∃ p, N = [pu p]) (fun v => 1 ≤ v ∧ v ≤ 5) (fun i _ N hN => by
    obtain ⟨v, N', h0, h1, e, hN'⟩ := drawn (W := W) (n := n + 5) 5 (by omega) (by omega) hN
    refine ⟨1 + v, N', ?_, hN', by omega, by omega⟩
    simp [lcT_app, gslots, wipeR, e]) (M := [pu p9]) ⟨p9, rfl⟩ (by simp [big, PySem.sizeLine]; omega)
  have r9 := rngI_int h90 (by omega)
  refine Rt.step [some (.scr ns), some (.ptr 0), some (.int m), some (.lst (jobs.map J.b)), some (.lst (il stops2)), some (.int unit), a, some (.lst (kept.map J.l)), some (.lst (late.map J.l)), b, c, d] [pu p10] (by
    simp only [rS_asg, rE_lc, rI_rng1, rE_call, rE_int, rA_cons, rA_nil, rE_v, List.getElem?_cons_zero, List.getElem?_cons_succ, onV_some, zbind_ok, e9, onI_int, r9, lcW_items, e10, newL_f, zwith_ok]
    rfl) ?_
  obtain ⟨v11, p11, h110, h111, e11⟩ := draw (W := W) (n := n + 5) p10 4 (by omega) (by omega) []
  have hsl2' : stops2.length ≤ 2 := by simp at hsl2; omega
  by_cases h : v11 = 0
  · subst h
    obtain ⟨v12, p12, h120, h121, e12⟩ := draw (W := W) (n := n + 5) p11 30000 (by omega) (by omega) []
    obtain ⟨p13, e13⟩ := released_right (W := W) (n := n) p12 stops2 (1 + v12) hsl2' hsv2 ⟨by omega, by omega⟩ hW
    refine Rt.of (.bl true) [pu p13] (by
      simp only [rS_ret, rE_call, rE_ife, rT_cmp, rE_bin, rE_int, rA_cons, rA_nil, rE_v, List.getElem?_cons_zero, List.getElem?_cons_succ, onV_some, zbind_ok, e11, eq_ii, onB_bl, beq_self_eq_true, if_true, e12, add_ii, e13, zwith_ok]) rfl
  · obtain ⟨p13, e13⟩ := released_right (W := W) (n := n) p11 stops2 1 hsl2' hsv2 ⟨by omega, by omega⟩ hW
    have hf : (v11 == 0) = false := by simp [h]
    refine Rt.of (.bl true) [pu p13] (by
      simp only [rS_ret, rE_call, rE_ife, rT_cmp, rE_bin, rE_int, rA_cons, rA_nil, rE_v, List.getElem?_cons_zero, List.getElem?_cons_succ, onV_some, zbind_ok, e11, eq_ii, onB_bl, hf, Bool.false_eq_true, if_false, e13, zwith_ok]) rfl
theorem K27law (ns : List Int) : ∃ M, G.callF K27.P (2 ^ 40) 20 22 [.scr ns] [] = .ok (.bl true) M := law_holds (n := 13) ns (by decide)
end K27

open PySem PySem.W PyProof.Rows
set_option maxHeartbeats 0 in
theorem PySem.Challenge.cw_whoevercomes_k27_benches_kept_by_their_s_holds : PySem.Challenge.rw_whoevercomes_k27_benches_kept_by_their_s.Holds := by
  w_on; o_law; k_head; (case hw => w_witness2)
  k_fill
  refine G.walk_g (l := PySem.Challenge.rw_whoevercomes_k27_benches_kept_by_their_s) (wf := 2 ^ 40) (n := 20) (lk := 22) rfl rfl ⟨rfl, by decide, by decide⟩ (fun ns _ => K27.K27law ns) (fun w h Y => PySem.W.kIn_of Y) ?F
  case F =>
    intro w mg fa h KX GG hmg
    refine' K27T.all_mk (wf := 2 ^ 40) (n := 20) KX GG hmg ?a0 ?a1 ?a2 ?a3 ?a4 ?a5 ?a6 ?a7 ?a8 ?a9 ?a10 ?a11 ?a12 ?a13 ?a14 ?a15 ?a16 ?a17 ?a18 ?a19 ?a20 ?a21 ?a22 ?ac0 ?k0 ?m24 ?mi24 ?m25 ?mi25 ?m26 ?mi26 ?m27 ?mi27 ?n0_held_jobs ?n0_held_stops ?d0 ?d1 ?d2 ?d3 ?d4 ?d5 ?d6 ?d7 ?d8 ?d9 ?d10 ?d11 ?d12 ?d13 ?d14 ?d15 ?d16 ?d17 ?d18 ?d19 ?d20 ?d21 ?d22 ?d23 ?d24 ?d25 ?d26 ?d27 ?ae0 ?ek0 ?ik0 ?en0_what ?ae1 ?ek1 ?ik1 ?en1_what ?en1_place ?es0_0 ?es0_1 ?es1_0 ?es1_1 ?z_len ?z_sum ?z_max ?z_min ?z_abs ?z_int ?z_sorted ?z_list ?z_tuple ?z_any ?z_all ?z_isinstance ?z_range ?z_bool ?z_str
    (case a0 => k_is)
    (case a1 => k_is)
    (case a2 => k_is)
    (case a3 => k_is)
    (case a4 => k_is)
    (case a5 => k_is)
    (case a6 => k_is)
    (case a7 => k_is)
    (case a8 => k_is)
    (case a9 => k_is)
    (case a10 => k_is)
    (case a11 => k_is)
    (case a12 => k_is)
    (case a13 => k_is)
    (case a14 => k_is)
    (case a15 => k_is)
    (case a16 => k_is)
    (case a17 => k_is)
    (case a18 => k_is)
    (case a19 => k_is)
    (case a20 => k_is)
    (case a21 => k_is)
    (case a22 => k_is)
    (case ac0 => k_is)
    (case k0 => (refine' G.Ck1.make ?_a ?_b ?_c ?_d ?_e ?_f ?_g ?_h; (case _a => k_is); (case _b => k_is); (case _c => k_is); (case _d => k_is); (case _e => k_is); (case _f => k_is); (case _g => k_is); (case _h => k_is)))
    (case m24 => k_is)
    (case mi24 => k_is)
    (case m25 => k_is)
    (case mi25 => k_is)
    (case m26 => k_is)
    (case mi26 => k_is)
    (case m27 => k_is)
    (case mi27 => k_is)
    (case n0_held_jobs => k_is)
    (case n0_held_stops => k_is)
    (case d0 => (refine' G.Dk.make ?_l ?_c ?_k; (case _l => k_is); (case _c => k_is); (case _k => k_is)))
    (case d1 => (refine' G.Dk.make ?_l ?_c ?_k; (case _l => k_is); (case _c => k_is); (case _k => k_is)))
    (case d2 => (refine' G.Dk.make ?_l ?_c ?_k; (case _l => k_is); (case _c => k_is); (case _k => k_is)))
    (case d3 => (refine' G.Dk.make ?_l ?_c ?_k; (case _l => k_is); (case _c => k_is); (case _k => k_is)))
    (case d4 => (refine' G.Dk.make ?_l ?_c ?_k; (case _l => k_is); (case _c => k_is); (case _k => k_is)))
    (case d5 => (refine' G.Dk.make ?_l ?_c ?_k; (case _l => k_is); (case _c => k_is); (case _k => k_is)))
    (case d6 => (refine' G.Dk.make ?_l ?_c ?_k; (case _l => k_is); (case _c => k_is); (case _k => k_is)))
    (case d7 => (refine' G.Dk.make ?_l ?_c ?_k; (case _l => k_is); (case _c => k_is); (case _k => k_is)))
    (case d8 => (refine' G.Dk.make ?_l ?_c ?_k; (case _l => k_is); (case _c => k_is); (case _k => k_is)))
    (case d9 => (refine' G.Dk.make ?_l ?_c ?_k; (case _l => k_is); (case _c => k_is); (case _k => k_is)))
    (case d10 => (refine' G.Dk.make ?_l ?_c ?_k; (case _l => k_is); (case _c => k_is); (case _k => k_is)))
    (case d11 => (refine' G.Dk.make ?_l ?_c ?_k; (case _l => k_is); (case _c => k_is); (case _k => k_is)))
    (case d12 => (refine' G.Dk.make ?_l ?_c ?_k; (case _l => k_is); (case _c => k_is); (case _k => k_is)))
    (case d13 => (refine' G.Dk.make ?_l ?_c ?_k; (case _l => k_is); (case _c => k_is); (case _k => k_is)))
    (case d14 => (refine' G.Dk.make ?_l ?_c ?_k; (case _l => k_is); (case _c => k_is); (case _k => k_is)))
    (case d15 => (refine' G.Dk.make ?_l ?_c ?_k; (case _l => k_is); (case _c => k_is); (case _k => k_is)))
    (case d16 => (refine' G.Dk.make ?_l ?_c ?_k; (case _l => k_is); (case _c => k_is); (case _k => k_is)))
    (case d17 => (refine' G.Dk.make ?_l ?_c ?_k; (case _l => k_is); (case _c => k_is); (case _k => k_is)))
    (case d18 => (refine' G.Dk.make ?_l ?_c ?_k; (case _l => k_is); (case _c => k_is); (case _k => k_is)))
    (case d19 => (refine' G.Dk.make ?_l ?_c ?_k; (case _l => k_is); (case _c => k_is); (case _k => k_is)))
    (case d20 => (refine' G.Dk.make ?_l ?_c ?_k; (case _l => k_is); (case _c => k_is); (case _k => k_is)))
    (case d21 => (refine' G.Dk.make ?_l ?_c ?_k; (case _l => k_is); (case _c => k_is); (case _k => k_is)))
    (case d22 => (refine' G.Dk.make ?_l ?_c ?_k; (case _l => k_is); (case _c => k_is); (case _k => k_is)))
    (case d23 => (refine' G.Dk.make ?_l ?_c ?_k; (case _l => k_is); (case _c => k_is); (case _k => k_is)))
    (case d24 => (refine' G.Dk.make ?_l ?_c ?_k; (case _l => k_is); (case _c => k_is); (case _k => k_is)))
    (case d25 => (refine' G.Dk.make ?_l ?_c ?_k; (case _l => k_is); (case _c => k_is); (case _k => k_is)))
    (case d26 => (refine' G.Dk.make ?_l ?_c ?_k; (case _l => k_is); (case _c => k_is); (case _k => k_is)))
    (case d27 => (refine' G.Dk.make ?_l ?_c ?_k; (case _l => k_is); (case _c => k_is); (case _k => k_is)))
    (case ae0 => k_is)
    (case ek0 => (refine' G.Ek1.make ?_a ?_b ?_c ?_d ?_e ?_f ?_g ?_h ?_i ?_j ?_k; (case _a => k_is); (case _b => first | rfl | decide +kernel); (case _c => k_is); (case _d => k_is); (case _e => k_is); (case _f => k_is); (case _g => k_is); (case _h => k_is); (case _i => k_is); (case _j => k_is); (case _k => k_is)))
    (case ik0 => (refine' G.Ik.make KX GG ?_a ?_b ?_c ?_d ?_e ?_f ?_g ?_h ?_i ?_j ?_k ?_l; (case _a => k_is); (case _b => k_is); (case _c => k_is); (case _d => rfl); (case _e => first | rfl | decide +kernel); (case _f => k_is); (case _g => ks_is); (case _h => first | k_is | rfl); (case _i => k_is); (case _j => k_is); (case _k => k_is); (case _l => first | rfl | decide +kernel)))
    (case en0_what => k_is)
    (case ae1 => k_is)
    (case ek1 => (refine' G.Ek1.make ?_a ?_b ?_c ?_d ?_e ?_f ?_g ?_h ?_i ?_j ?_k; (case _a => k_is); (case _b => first | rfl | decide +kernel); (case _c => k_is); (case _d => k_is); (case _e => k_is); (case _f => k_is); (case _g => k_is); (case _h => k_is); (case _i => k_is); (case _j => k_is); (case _k => k_is)))
    (case ik1 => (refine' G.Ik.make KX GG ?_a ?_b ?_c ?_d ?_e ?_f ?_g ?_h ?_i ?_j ?_k ?_l; (case _a => k_is); (case _b => k_is); (case _c => k_is); (case _d => rfl); (case _e => first | rfl | decide +kernel); (case _f => k_is); (case _g => ks_is); (case _h => first | k_is | rfl); (case _i => k_is); (case _j => k_is); (case _k => k_is); (case _l => first | rfl | decide +kernel)))
    (case en1_what => k_is)
    (case en1_place => k_is)
    (case es0_0 => k_is)
    (case es0_1 => k_is)
    (case es1_0 => k_is)
    (case es1_1 => k_is)
    (case z_len => k_is)
    (case z_sum => k_is)
    (case z_max => k_is)
    (case z_min => k_is)
    (case z_abs => k_is)
    (case z_int => k_is)
    (case z_sorted => k_is)
    (case z_list => k_is)
    (case z_tuple => k_is)
    (case z_any => k_is)
    (case z_all => k_is)
    (case z_isinstance => k_is)
    (case z_range => k_is)
    (case z_bool => k_is)
    (case z_str => k_is)
