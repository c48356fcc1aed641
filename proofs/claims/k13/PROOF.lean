import PyProof.Rows.All
import PySem.Str
import HandS.ForMost
import HandS.Star
import HandS.Style
import HandS.Flow
import HandS.IsInst
import HandS.Wide
import HandS.Defaults
import HandS.Comp
import HandS.Codes
import HandS.More
import HandS.TupAny
import HandS.RevTup
import KE.GoesMore
import KE.GoesEnum
import KE.GoesZip
import HandS.Conv
import KE.KUnpackStar
import PyProof.MakeMany
import HandS.Exc
import HandS.ExcOwn
import HandS.ExcInit
import HandS.ExcField
import HandS.Head0
import HandS.Head1
import HandS.Head2
import HandS.HeadEnd
import HandS.HeadHook1
import HandS.HeadHook2
import HandS.HeadHook3
import KE.KStateDown
import HandS.Words
import HandS.WordsExc
import PySem.Challenge.RW_bothreaders_k13_long_bodies_and_lengths
set_option linter.all false
/-! A small evaluator over data (trees), for a part of Python: expressions, statements, calls. -/
namespace EV
open PySem

inductive PV where
  | non | bl (b : Bool) | int (i : Int) | str (x : Str)
  | tup (xs : List PV) | lst (xs : List PV) | dct (kvs : List (PV × PV))
  deriving Inhabited

/-- the greatest length -/
def LIM : Nat := 16777216

mutual
def PV.dep : PV → Nat
  | .tup xs => deps xs + 1
  | .lst xs => deps xs + 1
  | .dct _ => 100
  | _ => 0
def deps : List PV → Nat
  | [] => 0
  | x :: xs => max (PV.dep x) (deps xs)
end
mutual
/-- no dict within -/
def PV.flat : PV → Bool
  | .tup xs => flats xs
  | .lst xs => flats xs
  | .dct _ => false
  | .str x => x.cps.all fun c => decide (c < 1114112)
  | _ => true
def flats : List PV → Bool
  | [] => true
  | x :: xs => PV.flat x && flats xs
end
mutual
/-- == -/
def peq : PV → PV → Bool
  | .non, y => match y with | .non => true | _ => false
  | .bl a, y => match y with | .bl b => a == b | .int j => (if a then 1 else 0) == j | _ => false
  | .int i, y => match y with | .bl b => i == (if b then 1 else 0) | .int j => i == j | _ => false
  | .str x, y => match y with | .str z => x == z | _ => false
  | .lst xs, y => match y with | .lst ys => peqs xs ys | _ => false
  | .tup xs, y => match y with | .tup ys => peqs xs ys | _ => false
  | .dct _, _ => false
def peqs : List PV → List PV → Bool
  | [], ys => match ys with | [] => true | _ => false
  | x :: xs, ys => match ys with | y :: ys' => peq x y && peqs xs ys' | [] => false
end
def PV.leaf : PV → Bool
  | .non => true | .bl _ => true | .int _ => true | .str _ => true
  | _ => false
/-- two leaves whose == is plain -/
def leaves : PV → PV → Bool
  | .non, y => match y with | .non => true | .bl _ => true | .int _ => true | .str _ => true | _ => false
  | .bl _, y => match y with | .non => true | .bl _ => true | .str _ => true | _ => false
  | .int _, y => match y with | .non => true | .int _ => true | .str _ => true | _ => false
  | .str _, y => match y with | .non => true | .bl _ => true | .int _ => true | .str _ => true | _ => false
  | _, _ => false
def eqOk (x y : PV) : Bool := leaves x y || (x.flat && y.flat && decide (min x.dep y.dep ≤ 60))

inductive Slot where
  | un | fz (v : PV) | ow (v : PV) | pn (v : PV)
  deriving Inhabited
abbrev Env := List Slot
/-- a result: data that never changes, or a new list or dict that nobody else holds -/
inductive RV where
  | fz (v : PV) | fr (v : PV)
def RV.val : RV → PV
  | .fz v => v
  | .fr v => v
/-- what may be read without being held: a slot, or a value -/
inductive Bw where
  | slot (i : Nat) | val (v : PV)

inductive BOp | add | sub | mul | mod | fdiv | pow
  deriving DecidableEq
inductive COp | eq | ne | lt | le | gt | ge | is | isnot | isin | notin
  deriving DecidableEq
inductive Ty | int | bool | str | tuple | list | dict
  deriving DecidableEq
inductive Bi | len | int | tuple | list | all | any | min | max | sum | abs | bool
  deriving DecidableEq
inductive AK | val | star | ref
  deriving DecidableEq

mutual
inductive Ex where
  | lit (v : PV)
  | glo (n : Nat)
  | var (i : Nat)
  | tup (es : List (AK × Ex))
  | lst (es : List (AK × Ex))
  | bin (op : BOp) (a b : Ex)
  | neg (a : Ex)
  | cmp (op : COp) (a b : Ex)
  | chain (op op' : COp) (a b c : Ex)
  | ands (es : List Ex)
  | ors (es : List Ex)
  | not (a : Ex)
  | ite (c a b : Ex)
  | idx (a i : Ex)
  | slc (a : Ex) (lo hi : Option Ex)
  | rev (a : Ex)
  | call (f : Nat) (args : List (AK × Ex))
  | callK (f : Nat) (args : List (AK × Ex)) (kws : List Ex) (order : List Nat)
  | bi (b : Bi) (args : List (AK × Ex))
  | isi (a : Ex) (tys : List Ty)
  | rng1 (t : Bool) (a : Ex)
  | rng2 (t : Bool) (a b : Ex)
  | comp (elt : Ex) (own : List Nat) (p : Pt) (it : It) (tests : List Ex)
  | tab (n : Nat) (kvs : List (Str × Str)) (e : Ex)
  | take (i : Nat)
  | rep (a n : Ex)
  | callB (f : Nat) (args : List (List (AK × Ex)))
inductive It where
  | ex (e : Ex)
  | range (args : List (AK × Ex))
  | enum (e : Ex)
  | zip (a b : Ex)
inductive Pt where
  | name (i : Nat)
  | tup (ps : List Pt)
end

/-- what an except suite may say of the exception: its n-th field, data, tuples -/
inductive HEx where
  | lit (v : PV)
  | fld (n : Nat)
  | tup (es : List HEx)
  | sure (xs : List Str) (a b : HEx)
inductive Sm where
  | asg (p : Pt) (e : Ex)
  | par (ij : List Nat) (es : List Ex)
  | setIdx (i : Nat) (e v : Ex)
  | app (i : Nat) (e : Ex)
  | star (i : Nat) (ps : List Pt) (e : Ex)
  | expr (e : Ex)
  | ret (e : Ex)
  | retN
  | ite (c : Ex) (a b : List Sm)
  | for_ (p : Pt) (it : It) (body : List Sm)
  | while_ (c : Ex) (body : List Sm)
  | brk | cont | pass | never
  | rais (j : Nat) (es : List (AK × Ex))
  | tryE (body : List Sm) (j i k : Nat) (h : HEx)

inductive Fl where
  | nx | br | ct | rt (v : RV)

/-! ### data -/
def truthy : PV → Bool
  | .non => false
  | .bl b => b
  | .int i => i != 0
  | .str x => x.cps.size != 0
  | .tup xs => !xs.isEmpty
  | .lst xs => !xs.isEmpty
  | .dct kvs => !kvs.isEmpty
def ixN (n : Nat) (i : Int) : Option Nat := if 0 ≤ i then (if i < n then some i.toNat else none) else if -(n : Int) ≤ i then some (i + n).toNat else none
/-- a slice's place -/
def sIx (n d : Nat) : Option Int → Nat
  | none => d
  | some i => if i < 0 then (i + n).toNat else min i.toNat n
def cut {α : Type} (xs : List α) (lo hi : Option Int) : List α := (xs.drop (sIx xs.length 0 lo)).take (sIx xs.length xs.length hi - sIx xs.length 0 lo)
def PV.int? : PV → Option Int
  | .int i => some i
  | _ => none
def PV.str? : PV → Option Str
  | .str z => some z
  | _ => none
def PV.seq? : PV → Option (List PV)
  | .tup xs => some xs
  | .lst xs => some xs
  | _ => none
def PV.tup? : PV → Option (List PV)
  | .tup xs => some xs
  | _ => none
def PV.lst? : PV → Option (List PV)
  | .lst xs => some xs
  | _ => none
def ints? : List PV → Option (List Int)
  | [] => some []
  | .int i :: r => (ints? r).map (i :: ·)
  | _ :: _ => none
def bools? : List PV → Option (List Bool)
  | [] => some []
  | .bl i :: r => (bools? r).map (i :: ·)
  | _ :: _ => none
def binOp : BOp → PV → PV → Option RV
  | .add, .int i, .int j => some (.fz (.int (i + j)))
  | .add, .tup xs, .tup ys => if xs.length + ys.length ≤ LIM then some (.fz (.tup (xs ++ ys))) else none
  | .add, .lst xs, .lst ys => if xs.length + ys.length ≤ LIM then some (.fr (.lst (xs ++ ys))) else none
  | .sub, .int i, .int j => some (.fz (.int (i - j)))
  | .mul, .int i, .int j => if (-(2 ^ 64) < i ∧ i < 2 ^ 64) ∨ (-(2 ^ 64) < j ∧ j < 2 ^ 64) then some (.fz (.int (i * j))) else none
  | .mod, .int i, .int j => if 0 < j then some (.fz (.int (i % j))) else none
  | .fdiv, .int i, .int j => if 0 < j ∧ j < 2 ^ 64 then some (.fz (.int (i / j))) else none
  | .pow, .int i, .int j => if 0 ≤ j ∧ j ≤ 1000 ∧ i.natAbs < 2 ^ 1024 then some (.fz (.int (i ^ j.toNat))) else none
  | _, _, _ => none
def ords (f : Int → Int → Bool) (x y : PV) : Option Bool := match x with
  | .int i => match y with
    | .int j => some (f i j)
    | _ => none
  | _ => none
def within (neg : Bool) (x y : PV) : Option Bool := match y with
  | .tup ys => if (ys.all fun y => eqOk y x) then some (if neg then !ys.any fun y => peq y x else ys.any fun y => peq y x) else none
  | .lst ys => if (ys.all fun y => eqOk y x) then some (if neg then !ys.any fun y => peq y x else ys.any fun y => peq y x) else none
  | _ => none
def isNon : PV → Bool
  | .non => true
  | _ => false
def isIt (neg : Bool) (x y : PV) : Option Bool := match y with
  | .non => some (if neg then !isNon x else isNon x)
  | _ => none
def cmpOp (op : COp) (x y : PV) : Option Bool := match op with
  | .eq => if eqOk x y then some (peq x y) else none
  | .ne => if eqOk x y then some (!peq x y) else none
  | .lt => ords (fun i j => decide (i < j)) x y
  | .le => ords (fun i j => decide (i ≤ j)) x y
  | .gt => ords (fun i j => decide (j < i)) x y
  | .ge => ords (fun i j => decide (j ≤ i)) x y
  | .is => isIt false x y
  | .isnot => isIt true x y
  | .isin => within false x y
  | .notin => within true x y
def tyOf : PV → Ty → Bool
  | .bl _, .bool => true | .bl _, .int => true
  | .int _, .int => true
  | .str _, .str => true
  | .tup _, .tuple => true
  | .lst _, .list => true
  | .dct _, .dict => true
  | _, _ => false
def biEv : Bi → List PV → Option RV
  | .len, [.tup xs] => some (.fz (.int xs.length))
  | .len, [.lst xs] => some (.fz (.int xs.length))
  | .int, [.int i] => some (.fz (.int i))
  | .int, [.bl b] => some (.fz (.int (if b then 1 else 0)))
  | .bool, [.int i] => some (.fz (.bl (i != 0)))
  | .bool, [.bl b] => some (.fz (.bl b))
  | .tuple, [.tup xs] => some (.fz (.tup xs))
  | .tuple, [.lst xs] => some (.fz (.tup xs))
  | .list, [.tup xs] => some (.fr (.lst xs))
  | .list, [.lst xs] => some (.fr (.lst xs))
  | .all, [.lst xs] => (bools? xs).map fun bs => .fz (.bl (bs.all id))
  | .any, [.lst xs] => (bools? xs).map fun bs => .fz (.bl (bs.any id))
  | .abs, [.int i] => some (.fz (.int (if i < 0 then -i else i)))
  | .max, [.int i, .int j] => some (.fz (.int (if j > i then j else i)))
  | .min, [.int i, .int j] => some (.fz (.int (if j < i then j else i)))
  | .sum, [.tup xs] => (ints? xs).map fun is => .fz (.int is.sum)
  | .sum, [.lst xs] => (ints? xs).map fun is => .fz (.int is.sum)
  | _, _ => none
def bias (b : Bi) (args : List PV) : Option RV := if args.length ≤ 2 then biEv b args else none

/-! ### slots -/
def use (i : Nat) (ρ : Env) : Option (RV × Env) :=
  match ρ[i]? with
  | some (.fz v) => some (.fz v, ρ)
  | some (.ow v) => some (.fz v, ρ.set i (.fz v))
  | _ => none
/-- the last use of a name: its list may be owned on -/
def takeE (i : Nat) (ρ : Env) : Option (RV × Env) :=
  match ρ[i]? with
  | some (.ow v) => some (.fr v, ρ.set i .un)
  | _ => use i ρ
def peek (i : Nat) (ρ : Env) : Option PV :=
  match ρ[i]? with
  | some (.fz v) => some v
  | some (.ow v) => some v
  | some (.pn v) => some v
  | _ => none
def bw (a : Ex) (r : Option (RV × Env)) (ρ : Env) : Option (Bw × Env) :=
  match a with
  | .var i => (peek i ρ).map fun _ => (.slot i, ρ)
  | _ => r.map fun p => (.val p.1.val, p.2)
def deref (b : Bw) (ρ : Env) : Option PV :=
  match b with
  | .slot i => peek i ρ
  | .val v => some v
def derefs : List Bw → Env → Option (List PV)
  | [], _ => some []
  | b :: bs, ρ => (deref b ρ).bind fun v => (derefs bs ρ).map fun vs => v :: vs
def derefL : List (List Bw) → Env → Option (List PV)
  | [], _ => some []
  | bs :: r, ρ => (derefs bs ρ).bind fun vs => (derefL r ρ).map fun us => .lst vs :: us
def isStr : PV → Bool
  | .str _ => true
  | _ => false
/-- an answer's truth -/
def tst (r : Option (RV × Env)) : Option (Bool × Env) := r.bind fun p => if isStr p.1.val then none else some (truthy p.1.val, p.2)
/-- store at a name -/
def put (i : Nat) (r : RV) (ρ : Env) : Option Env :=
  match ρ[i]? with
  | some (.pn _) => none
  | some _ => some (ρ.set i (match r with | .fz v => .fz v | .fr v => .ow v))
  | none => none
/-- change what stands at a slot -/
def modify (i : Nat) (f : PV → Option PV) (ρ : Env) : Option Env :=
  match ρ[i]? with
  | some (.ow v) => (f v).map fun u => ρ.set i (.ow u)
  | some (.pn v) => (f v).map fun u => ρ.set i (.pn u)
  | _ => none
def wipe (ρ : Env) : List Nat → Env
  | [] => ρ
  | v :: vs => (wipe ρ vs).set v .un
/-- none of these slots owns a list -/
def ownFree (ρ : Env) (own : List Nat) : Bool := own.all fun i => match ρ[i]? with
  | some (.ow _) => false
  | some (.pn _) => false
  | _ => true
/-- the slots of a comprehension's own names as they were ahead -/
def back (ρ0 ρ : Env) : List Nat → Env
  | [] => ρ
  | v :: vs => (back ρ0 ρ vs).set v (ρ0.getD v .un)
mutual
def bindP : Pt → PV → Env → Option Env
  | .name i, v, ρ => put i (.fz v) ρ
  | .tup ps, v, ρ => match v with
    | .tup xs => if xs.length = ps.length then bindPs ps xs ρ else none
    | _ => none
def bindPs : List Pt → List PV → Env → Option Env
  | [], _, ρ => some ρ
  | p :: ps, vs, ρ => match vs with
    | [] => none
    | v :: vs' => (bindP p v ρ).bind fun ρ1 => bindPs ps vs' ρ1
end

/-- the values alone -/
def vals? : List Bw → Option (List PV)
  | [] => some []
  | .val v :: r => (vals? r).map (v :: ·)
  | .slot _ :: _ => none
/-- a call's arguments: data, and lists that the callee may change -/
def avGet (ρ : Env) : List Bw → Option (List (Bool × PV))
  | [] => some []
  | .val x :: r => (avGet ρ r).map ((false, x) :: ·)
  | .slot i :: r => match ρ[i]? with
    | some (.ow v) => (avGet ρ r).map ((true, v) :: ·)
    | some (.pn v) => (avGet ρ r).map ((true, v) :: ·)
    | _ => none
/-- what the callee left of the lists that were handed to it -/
def avPut : List Bw → List PV → Env → Option Env
  | [], _, ρ => some ρ
  | .val _ :: r, us, ρ => avPut r us ρ
  | .slot i :: r, us, ρ => match us with
    | u :: us' => (modify i (fun _ => some u) ρ).bind fun ρ1 => avPut r us' ρ1
    | [] => none
/-- the items at some places -/
def pick {α : Type} (xs : List α) : List Nat → Option (List α)
  | [] => some []
  | i :: r => xs[i]?.bind fun x => (pick xs r).map (x :: ·)
/-- at most one list is handed on -/
def slots : List Bw → List Nat
  | [] => []
  | .val _ :: r => slots r
  | .slot i :: r => i :: slots r

abbrev Cl := Nat → List (Bool × PV) → Option (RV × List PV)

/-! ### loops -/
def compLoop (turn : PV → Env → Option (Option PV × Env)) : List PV → Env → List PV → Option (List PV × Env)
  | [], ρ, acc => some (acc, ρ)
  | x :: xs, ρ, acc => (turn x ρ).bind fun p => match p.1 with
    | some y => if acc.length < LIM then compLoop turn xs p.2 (acc ++ [y]) else none
    | none => compLoop turn xs p.2 acc
def forLoop (turn : PV → Env → Option (Fl × Env)) : List PV → Env → Option (Fl × Env)
  | [], ρ => some (.nx, ρ)
  | x :: xs, ρ => (turn x ρ).bind fun p => match p.1 with
    | .nx => forLoop turn xs p.2
    | .ct => forLoop turn xs p.2
    | .br => some (.nx, p.2)
    | .rt v => some (.rt v, p.2)
def whileLoop (c : Env → Option (Bool × Env)) (body : Env → Option (Fl × Env)) : Nat → Env → Option (Fl × Env)
  | 0, _ => none
  | n + 1, ρ => (c ρ).bind fun p => if p.1 then (body p.2).bind fun q => match q.1 with
      | .nx => whileLoop c body n q.2
      | .ct => whileLoop c body n q.2
      | .br => some (.nx, q.2)
      | .rt v => some (.rt v, q.2)
    else some (.nx, p.2)
def FUEL : Nat := 1000000000

def rangeItems (args : List PV) : Option (List PV) :=
  match args with
  | [.int n] => if -(2 ^ 62) ≤ n ∧ n < 2 ^ 62 then some ((List.range n.toNat).map fun k => .int (k : Nat)) else none
  | [.int lo, .int hi] => if (-(2 ^ 62) ≤ lo ∧ lo < 2 ^ 62) ∧ (-(2 ^ 62) ≤ hi ∧ hi < 2 ^ 62) then some ((List.range (hi - lo).toNat).map fun k => .int (lo + (k : Nat))) else none
  | _ => none
def enumItems : Nat → List PV → List PV
  | _, [] => []
  | n, x :: xs => .tup [.int n, x] :: enumItems (n + 1) xs

/-- a new list (false) or tuple (true) -/
def mkSeq (t : Bool) (xs : List PV) : Option RV := if xs.length ≤ LIM then some (if t then .fz (.tup xs) else .fr (.lst xs)) else none

/-! ### expressions -/
section
variable (G : List PV) (C : Cl)
mutual
def evE : Ex → Env → Option (RV × Env)
  | .lit v, ρ => some (.fz v, ρ)
  | .glo n, ρ => G[n]?.map fun v => (.fz v, ρ)
  | .var i, ρ => use i ρ
  | .take i, ρ => takeE i ρ
  | .rep a n, ρ => (evE a ρ).bind fun p => match p.1 with
    | .fr (.lst xs) => (evE n p.2).bind fun q => q.1.val.int?.bind fun k => if 0 ≤ k ∧ k ≤ 1000000 ∧ xs.length * k.toNat ≤ LIM then some (.fr (.lst (List.replicate k.toNat xs).flatten), q.2) else none
    | _ => none
  | .tup es, ρ => (evAs es ρ).bind fun p => (vals? p.1).bind fun vs => if vs.length ≤ LIM then some (.fz (.tup vs), p.2) else none
  | .lst es, ρ => (evAs es ρ).bind fun p => (vals? p.1).bind fun vs => if vs.length ≤ LIM then some (.fr (.lst vs), p.2) else none
  | .bin op a b, ρ => (bw a (evE a ρ) ρ).bind fun p => (bw b (evE b p.2) p.2).bind fun q =>
      (deref p.1 q.2).bind fun x => (deref q.1 q.2).bind fun y => (binOp op x y).map fun r => (r, q.2)
  | .neg a, ρ => (evE a ρ).bind fun p => (p.1.val.int?).map fun i => (.fz (.int (-i)), p.2)
  | .cmp op a b, ρ => (bw a (evE a ρ) ρ).bind fun p => (bw b (evE b p.2) p.2).bind fun q =>
      (deref p.1 q.2).bind fun x => (deref q.1 q.2).bind fun y => (cmpOp op x y).map fun r => (.fz (.bl r), q.2)
  | .chain op op' a b c, ρ => (evE a ρ).bind fun p => (evE b p.2).bind fun q => (cmpOp op p.1.val q.1.val).bind fun k =>
      if k then (evE c q.2).bind fun r => (cmpOp op' q.1.val r.1.val).map fun k' => (.fz (.bl k'), r.2) else some (.fz (.bl false), q.2)
  | .ands es, ρ => evAnd es ρ
  | .ors es, ρ => evOr es ρ
  | .not a, ρ => (tst (evE a ρ)).map fun p => (.fz (.bl !p.1), p.2)
  | .ite c a b, ρ => (tst (evE c ρ)).bind fun p => if p.1 then evE a p.2 else evE b p.2
  | .idx a i, ρ => (bw a (evE a ρ) ρ).bind fun p => (evE i p.2).bind fun q => (deref p.1 q.2).bind fun x => x.seq?.bind fun xs => q.1.val.int?.bind fun i =>
      (ixN xs.length i).bind fun j => xs[j]?.map fun v => (.fz v, q.2)
  | .slc a lo hi, ρ => (bw a (evE a ρ) ρ).bind fun p => (evO lo p.2).bind fun l => (evO hi l.2).bind fun h => (deref p.1 h.2).bind fun x => match x with
      | .tup xs => some (.fz (.tup (cut xs l.1 h.1)), h.2)
      | .lst xs => some (.fr (.lst (cut xs l.1 h.1)), h.2)
      | _ => none
  | .rev a, ρ => (bw a (evE a ρ) ρ).bind fun p => (deref p.1 p.2).bind fun x => match x with
      | .lst xs => some (.fr (.lst xs.reverse), p.2)
      | _ => none
  | .call f args, ρ => (evAs args ρ).bind fun p => if (slots p.1).length ≤ 1 then (avGet p.2 p.1).bind fun vs => (C f vs).bind fun r => (avPut p.1 r.2 p.2).map fun ρ' => (r.1, ρ') else none
  | .callK f args kws order, ρ => (evAs args ρ).bind fun p => (evKs kws p.2).bind fun q => (vals? p.1).bind fun us =>
      (pick (us ++ q.1) order).bind fun vs => (C f (vs.map fun v => (false, v))).map fun r => (r.1, q.2)
  | .bi b args, ρ => (evAs args ρ).bind fun p => (derefs p.1 p.2).bind fun vs => (bias b vs).map fun r => (r, p.2)
  | .isi a tys, ρ => (bw a (evE a ρ) ρ).bind fun p => (deref p.1 p.2).map fun x => (.fz (.bl (tys.any (tyOf x))), p.2)
  | .rng1 t a, ρ => (evE a ρ).bind fun p => (rangeItems [p.1.val]).bind fun xs => (mkSeq t xs).map fun r => (r, p.2)
  | .rng2 t a b, ρ => (evE a ρ).bind fun p => (evE b p.2).bind fun q => (rangeItems [p.1.val, q.1.val]).bind fun xs => (mkSeq t xs).map fun r => (r, q.2)
  | .comp elt own pt it tests, ρ => (evI it ρ).bind fun p =>
      if ownFree p.2 own then (compLoop (fun x ρ1 => (bindP pt x ρ1).bind fun ρ2 => (evTs tests ρ2).bind fun t =>
        if t.1 then (evE elt t.2).map fun y => (some y.1.val, wipe y.2 own) else some (none, wipe t.2 own)) p.1 (wipe p.2 own) []).map fun q => (.fr (.lst q.1), back p.2 q.2 own) else none
  | .tab _ kvs e, ρ => (evE e ρ).bind fun p => p.1.val.str?.bind fun z => (kvs.lookup z).map fun w => (.fz (.str w), p.2)
  | .callB f args, ρ => (evBs args ρ).bind fun p => (derefL p.1 p.2).bind fun vs => (C f (vs.map fun v => (false, v))).bind fun r => if r.1.val.leaf then some (.fz r.1.val, p.2) else none
/-- lists whose items may be lists of the caller's own, read by the callee -/
def evBs : List (List (AK × Ex)) → Env → Option (List (List Bw) × Env)
  | [], ρ => some ([], ρ)
  | es :: r, ρ => (evAs es ρ).bind fun p => if p.1.length ≤ LIM then (evBs r p.2).map fun q => (p.1 :: q.1, q.2) else none
def evAnd : List Ex → Env → Option (RV × Env)
  | [], _ => none
  | a :: es, ρ => match es with
    | [] => evE a ρ
    | _ :: _ => (evE a ρ).bind fun p => match p.1 with
      | .fz (.bl k) => if k then evAnd es p.2 else some (.fz (.bl false), p.2)
      | _ => none
def evOr : List Ex → Env → Option (RV × Env)
  | [], _ => none
  | a :: es, ρ => match es with
    | [] => evE a ρ
    | _ :: _ => (evE a ρ).bind fun p => match p.1 with
      | .fz (.bl k) => if k then some (.fz (.bl true), p.2) else evOr es p.2
      | _ => none
/-- arguments, items of a display -/
def evAs : List (AK × Ex) → Env → Option (List Bw × Env)
  | [], ρ => some ([], ρ)
  | (k, e) :: es, ρ => match k with
      | .val => (evE e ρ).bind fun p => (evAs es p.2).map fun q => (.val p.1.val :: q.1, q.2)
      | .star => (evE e ρ).bind fun p => p.1.val.seq?.bind fun xs => (evAs es p.2).map fun q => (xs.map .val ++ q.1, q.2)
      | .ref => (bw e (evE e ρ) ρ).bind fun p => (evAs es p.2).map fun q => (p.1 :: q.1, q.2)
def evKs : List Ex → Env → Option (List PV × Env)
  | [], ρ => some ([], ρ)
  | e :: es, ρ => (evE e ρ).bind fun p => (evKs es p.2).map fun q => (p.1.val :: q.1, q.2)
def evTs : List Ex → Env → Option (Bool × Env)
  | [], ρ => some (true, ρ)
  | e :: _, ρ => tst (evE e ρ)
def evO : Option Ex → Env → Option (Option Int × Env)
  | none, ρ => some (none, ρ)
  | some e, ρ => (evE e ρ).bind fun p => p.1.val.int?.map fun i => (some i, p.2)
def evI : It → Env → Option (List PV × Env)
  | .ex e, ρ => (evE e ρ).bind fun p => p.1.val.seq?.map fun xs => (xs, p.2)
  | .range args, ρ => (evAs args ρ).bind fun p => (vals? p.1).bind fun vs => (rangeItems vs).map fun xs => (xs, p.2)
  | .enum e, ρ => (evE e ρ).bind fun p => p.1.val.seq?.map fun xs => (enumItems 0 xs, p.2)
  | .zip a b, ρ => (evE a ρ).bind fun p => (evE b p.2).bind fun q => p.1.val.seq?.bind fun xs => q.1.val.seq?.map fun ys => (List.zipWith (fun x y => .tup [x, y]) xs ys, q.2)
end
end
end EV
set_option Elab.async false
set_option linter.all false
set_option maxRecDepth 100000
namespace EV
open PySem PySem.Spec PyProof.Rows L2

abbrev AS := Addr → Prop
section
variable (K : PySem.W.Frag)
def KT (a : Addr) (vs : List V) : Prop := ∃ (o : Obj) (its : Array Value) (n : Nat), K.lookup a = some o ∧ o.cls = .type "tuple" ∧ o.data = .seq its n ∧ its.size ≤ sizeLine ∧ Vals vs its.toList
def KL (a : Addr) (vs : List V) : Prop := ∃ (o : Obj) (its : Array Value) (n : Nat), K.lookup a = some o ∧ o.cls = .type "list" ∧ o.dict = none ∧ o.data = .seq its n ∧ its.size ≤ sizeLine ∧ Vals vs its.toList
def SqTW (W : AS) (H : Hp) (a : Addr) (vs : List V) : Prop := (Rd H a (.tup vs) ∧ ¬ W a) ∨ KT K a vs
def SqLW (W : AS) (H : Hp) (a : Addr) (vs : List V) : Prop := (Rd H a (.lst vs) ∧ ¬ W a) ∨ KL K a vs
mutual
/-- the data v stands as x in the heap H, nowhere at an address of W -/
def Rep (W : AS) (H : Hp) : PV → V → Prop
  | .non, x => x = .non
  | .bl b, x => x = .bl b
  | .int i, x => x = .int i
  | .str z, x => x = .str z
  | .tup xs, x => ∃ a vs, x = .ref a ∧ SqTW K W H a vs ∧ Reps W H xs vs
  | .lst xs, x => ∃ a vs, x = .ref a ∧ SqLW K W H a vs ∧ Reps W H xs vs
  | .dct _, _ => False
def Reps (W : AS) (H : Hp) : List PV → List V → Prop
  | [], vs => vs = []
  | x :: xs, vs => ∃ v r, vs = v :: r ∧ Rep W H x v ∧ Reps W H xs r
end
end
section
variable {K : PySem.W.Frag} {W W' W'' : AS} {H H' H'' : Hp} {a : Addr} {vs : List V}
theorem SqTW.sq (h : SqTW K W H a vs) : SqT K H a vs := by
  rcases h with ⟨h, _⟩ | h
  · exact .inl h
  · exact .inr h
theorem SqLW.sq (h : SqLW K W H a vs) : SqL K H a vs := by
  rcases h with ⟨h, _⟩ | h
  · exact .inl h
  · exact .inr h
/-- what stands and is not of W stands on, not of W' -/
def Ext (W W' : AS) (H H' : Hp) : Prop := ∀ b o, H b = some o → ¬ W b → H' b = some o ∧ ¬ W' b
theorem Ext.refl : Ext W W H H := fun _ _ h n => ⟨h, n⟩
theorem Ext.trans (a : Ext W W' H H') (b : Ext W' W'' H' H'') : Ext W W'' H H'' := fun c o h n => let ⟨h1, n1⟩ := a c o h n; b c o h1 n1
theorem Ext.less (h : ∀ b, W' b → W b) : Ext W W' H H := fun b _ e n => ⟨e, fun z => n (h b z)⟩
theorem Ext.rd {u : HO} (e : Ext W W' H H') (h : Rd H a u ∧ ¬ W a) : Rd H' a u ∧ ¬ W' a := by
  obtain ⟨h | ⟨o, h⟩, n⟩ := h
  · obtain ⟨h1, n1⟩ := e _ _ h n
    exact ⟨.inl h1, n1⟩
  · obtain ⟨h1, n1⟩ := e _ _ h n
    exact ⟨.inr ⟨o, h1⟩, n1⟩
theorem SqTW.ext (e : Ext W W' H H') (h : SqTW K W H a vs) : SqTW K W' H' a vs := by
  rcases h with h | h
  · exact .inl (e.rd h)
  · exact .inr h
theorem SqLW.ext (e : Ext W W' H H') (h : SqLW K W H a vs) : SqLW K W' H' a vs := by
  rcases h with h | h
  · exact .inl (e.rd h)
  · exact .inr h
mutual
theorem Rep.ext (e : Ext W W' H H') : ∀ {v : PV} {x : V}, Rep K W H v x → Rep K W' H' v x
  | .non, _, h => h
  | .bl _, _, h => h
  | .int _, _, h => h
  | .str _, _, h => h
  | .tup xs, _, h => by
    obtain ⟨a, vs, e1, h1, h2⟩ := h
    exact ⟨a, vs, e1, h1.ext e, Reps.ext e h2⟩
  | .lst xs, _, h => by
    obtain ⟨a, vs, e1, h1, h2⟩ := h
    exact ⟨a, vs, e1, h1.ext e, Reps.ext e h2⟩
  | .dct _, _, h => h
theorem Reps.ext (e : Ext W W' H H') : ∀ {xs : List PV} {vs : List V}, Reps K W H xs vs → Reps K W' H' xs vs
  | [], _, h => h
  | x :: xs, _, h => by
    obtain ⟨v, r, e1, h1, h2⟩ := h
    exact ⟨v, r, e1, Rep.ext e h1, Reps.ext e h2⟩
end
theorem Reps.length : ∀ {xs : List PV} {vs : List V}, Reps K W H xs vs → vs.length = xs.length
  | [], _, h => by rw [show _ = [] from h]; rfl
  | x :: xs, _, h => by
    obtain ⟨v, r, e1, h1, h2⟩ := h
    rw [e1, List.length_cons, List.length_cons, Reps.length h2]
theorem Reps.get : ∀ {xs : List PV} {vs : List V} {i : Nat} {x : PV}, Reps K W H xs vs → xs[i]? = some x → ∃ v, vs[i]? = some v ∧ Rep K W H x v
  | [], _, _, _, _, h => by simp at h
  | x :: xs, _, 0, y, h, e => by
    obtain ⟨v, r, e1, h1, h2⟩ := h
    have e2 : x = y := by simpa using e
    subst e2; subst e1
    exact ⟨v, rfl, h1⟩
  | x :: xs, _, i + 1, y, h, e => by
    obtain ⟨v, r, e1, h1, h2⟩ := h
    subst e1
    obtain ⟨u, q1, q2⟩ := Reps.get (i := i) h2 (by simpa using e)
    exact ⟨u, by simpa using q1, q2⟩
theorem Reps.app : ∀ {xs ys : List PV} {vs us : List V}, Reps K W H xs vs → Reps K W H ys us → Reps K W H (xs ++ ys) (vs ++ us)
  | [], _, _, _, h, h' => by rw [show _ = [] from h]; exact h'
  | x :: xs, _, _, _, h, h' => by
    obtain ⟨v, r, e1, h1, h2⟩ := h
    subst e1
    exact ⟨v, r ++ _, rfl, h1, Reps.app h2 h'⟩
theorem Reps.one {x : PV} {v : V} (h : Rep K W H x v) : Reps K W H [x] [v] := ⟨v, [], rfl, h, rfl⟩
theorem Reps.take : ∀ {xs : List PV} {vs : List V} (n : Nat), Reps K W H xs vs → Reps K W H (xs.take n) (vs.take n)
  | [], _, n, h => by rw [show _ = [] from h]; simp [Reps]
  | x :: xs, _, 0, h => by simp [Reps]
  | x :: xs, _, n + 1, h => by
    obtain ⟨v, r, e1, h1, h2⟩ := h
    subst e1
    exact ⟨v, r.take n, rfl, h1, Reps.take n h2⟩
theorem Reps.drop : ∀ {xs : List PV} {vs : List V} (n : Nat), Reps K W H xs vs → Reps K W H (xs.drop n) (vs.drop n)
  | [], _, n, h => by rw [show _ = [] from h]; simp [Reps]
  | x :: xs, _, 0, h => h
  | x :: xs, _, n + 1, h => by
    obtain ⟨v, r, e1, h1, h2⟩ := h
    subst e1
    exact Reps.drop n h2
theorem Reps.rev : ∀ {xs : List PV} {vs : List V}, Reps K W H xs vs → Reps K W H xs.reverse vs.reverse
  | [], _, h => by rw [show _ = [] from h]; simp [Reps]
  | x :: xs, _, h => by
    obtain ⟨v, r, e1, h1, h2⟩ := h
    subst e1
    rw [List.reverse_cons, List.reverse_cons]
    exact Reps.app (Reps.rev h2) (Reps.one h1)
theorem Reps.set : ∀ {xs : List PV} {vs : List V} {x : PV} {v : V} (n : Nat), Reps K W H xs vs → Rep K W H x v → Reps K W H (xs.set n x) (vs.set n v)
  | [], _, _, _, n, h, _ => by rw [show _ = [] from h]; simp [Reps]
  | y :: xs, _, _, _, 0, h, q => by
    obtain ⟨v, r, e1, h1, h2⟩ := h
    subst e1
    exact ⟨_, _, rfl, q, h2⟩
  | y :: xs, _, _, _, n + 1, h, q => by
    obtain ⟨v, r, e1, h1, h2⟩ := h
    subst e1
    exact ⟨_, _, rfl, h1, Reps.set n h2 q⟩
theorem Reps.of_get : ∀ {xs : List PV} {vs : List V}, xs.length = vs.length → (∀ (i : Nat) (x : PV) (v : V), xs[i]? = some x → vs[i]? = some v → Rep K W H x v) → Reps K W H xs vs
  | [], [], _, _ => rfl
  | [], _ :: _, h, _ => by simp at h
  | _ :: _, [], h, _ => by simp at h
  | x :: xs, v :: vs, h, f => ⟨v, vs, rfl, f 0 x v rfl rfl, Reps.of_get (by simpa using h) fun i y u e1 e2 => f (i + 1) y u (by simpa using e1) (by simpa using e2)⟩

/-- what is read: W only below the top -/
def BRep (K : PySem.W.Frag) (W : AS) (H : Hp) : PV → V → Prop
  | .tup xs, x => ∃ a vs, x = .ref a ∧ SqTW K W H a vs ∧ Reps K W H xs vs
  | .lst xs, x => ∃ a vs, x = .ref a ∧ SqL K H a vs ∧ Reps K W H xs vs
  | .non, x => x = .non
  | .bl b, x => x = .bl b
  | .int i, x => x = .int i
  | .str z, x => x = .str z
  | .dct _, _ => False
theorem Rep.b {v : PV} {x : V} (h : Rep K W H v x) : BRep K W H v x := by
  cases v with
  | tup xs =>
    obtain ⟨a, vs, e, h1, h2⟩ := h
    exact ⟨a, vs, e, h1, h2⟩
  | lst xs =>
    obtain ⟨a, vs, e, h1, h2⟩ := h
    exact ⟨a, vs, e, h1.sq, h2⟩
  | _ => exact h
/-- a list that changes stands at a -/
def Own (K : PySem.W.Frag) (W : AS) (H : Hp) (v : PV) (a : Addr) : Prop :=
  match v with
  | .lst xs => ∃ vs, H a = some (.lst vs) ∧ Reps K W H xs vs
  | _ => False
theorem Own.b {v : PV} (h : Own K W H v a) : BRep K W H v (.ref a) := by
  cases v with
  | lst xs =>
    obtain ⟨vs, e, h2⟩ := h
    exact ⟨a, vs, rfl, .of e, h2⟩
  | _ => exact h.elim
theorem Own.some {v : PV} (h : Own K W H v a) : H a ≠ none := by
  cases v with
  | lst xs =>
    obtain ⟨vs, e, h2⟩ := h
    rw [e]; exact fun z => nomatch z
  | _ => exact h.elim
theorem Own.rep {v : PV} (h : Own K W H v a) (hl : ∀ b, W' b → W b) (n : ¬ W' a) : Rep K W' H v (.ref a) := by
  cases v with
  | lst xs =>
    obtain ⟨vs, e, h2⟩ := h
    exact ⟨a, vs, rfl, .inl ⟨.inl e, n⟩, h2.ext (Ext.less hl)⟩
  | _ => exact h.elim
theorem Own.ext {v : PV} (e : Ext W W' H H') (ha : H' a = H a) (h : Own K W H v a) : Own K W' H' v a := by
  cases v with
  | lst xs =>
    obtain ⟨vs, e1, h2⟩ := h
    exact ⟨vs, by rw [ha]; exact e1, h2.ext e⟩
  | _ => exact h.elim
end

/-! ### slots -/
def IsOw (ρ : Env) (i : Nat) (v : PV) : Prop := ρ[i]? = some (Slot.ow v) ∨ ρ[i]? = some (Slot.pn v)
def Wof (Z : AS) (σ : L2.St) (ρ : Env) : AS := fun a => Z a ∨ ∃ (i : Nat) (v : PV), IsOw ρ i v ∧ σ[i]? = some (some (.ref a))
structure SR (K : PySem.W.Frag) (Z : AS) (pn : Nat → Option Addr) (σ : L2.St) (H : Hp) (ρ : Env) : Prop where
  len : σ.length = ρ.length
  zt : ∀ a, Z a → H a ≠ none
  fz : ∀ (i : Nat) (v : PV), ρ[i]? = some (Slot.fz v) → ∃ x, σ[i]? = some (some x) ∧ Rep K (Wof Z σ ρ) H v x
  ow : ∀ (i : Nat) (v : PV), IsOw ρ i v → ∃ a, σ[i]? = some (some (.ref a)) ∧ ¬ Z a ∧ Own K (Wof Z σ ρ) H v a
  inj : ∀ (i j : Nat) (a : Addr) (v w : PV), IsOw ρ i v → IsOw ρ j w → σ[i]? = some (some (.ref a)) → σ[j]? = some (some (.ref a)) → i = j
  pins : ∀ (i : Nat) (v : PV) (a : Addr), ρ[i]? = some (Slot.pn v) → σ[i]? = some (some (.ref a)) → pn i = some a
/-- one address more -/
def plus (Z : AS) (a : Addr) : AS := fun b => Z b ∨ b = a
section
variable {K : PySem.W.Frag} {Z Z' : AS} {pn : Nat → Option Addr} {σ σ' : L2.St} {H H' H'' : Hp} {ρ ρ' ρ'' : Env} {a : Addr}
theorem SR.wt (s : SR K Z pn σ H ρ) : ∀ a, Wof Z σ ρ a → H a ≠ none := fun a h => by
  rcases h with h | ⟨i, v, h1, h2⟩
  · exact s.zt a h
  · obtain ⟨b, e, _, o⟩ := s.ow i v h1
    rw [h2] at e
    cases e
    exact o.some
theorem Wof.plus_sub : ∀ b, Wof Z σ ρ b → Wof (plus Z a) σ ρ b := fun b h => by
  rcases h with h | h
  · exact .inl (.inl h)
  · exact .inr h
theorem Wof.of_plus {b : Addr} (h : Wof (plus Z a) σ ρ b) : Wof Z σ ρ b ∨ b = a := by
  rcases h with (h | h) | h
  · exact .inl (.inl h)
  · exact .inr h
  · exact .inl (.inr h)
/-- fewer forbidden addresses -/
theorem SR.less (s : SR K Z' pn σ H ρ) (h : ∀ b, Z b → Z' b) : SR K Z pn σ H ρ := by
  have hw : ∀ b, Wof Z σ ρ b → Wof Z' σ ρ b := fun b q => by
    rcases q with q | q
    · exact .inl (h b q)
    · exact .inr q
  refine ⟨s.len, fun a q => s.zt a (h a q), fun i v e => ?_, fun i v e => ?_, s.inj, s.pins⟩
  · obtain ⟨x, e1, r⟩ := s.fz i v e
    exact ⟨x, e1, r.ext (Ext.less hw)⟩
  · obtain ⟨b, e1, n, o⟩ := s.ow i v e
    exact ⟨b, e1, fun q => n (h b q), o.ext (Ext.less hw) rfl⟩
/-- the heap grows, what stands stays -/
theorem SR.heap (s : SR K Z pn σ H ρ) (h : ∀ b o, H b = some o → H' b = some o) : SR K Z pn σ H' ρ := by
  have e : Ext (Wof Z σ ρ) (Wof Z σ ρ) H H' := fun b o q n => ⟨h b o q, n⟩
  refine ⟨s.len, fun a q z => ?_, fun i v e1 => ?_, fun i v e1 => ?_, s.inj, s.pins⟩
  · cases r : H a with
    | none => exact s.zt a q r
    | some o => rw [h a o r] at z; cases z
  · obtain ⟨x, e2, r⟩ := s.fz i v e1
    exact ⟨x, e2, r.ext e⟩
  · obtain ⟨b, e2, n, o⟩ := s.ow i v e1
    refine ⟨b, e2, n, o.ext e ?_⟩
    cases r : H b with
    | none => exact absurd r o.some
    | some u => rw [h b u r]
/-- a new address is forbidden from here on -/
theorem SR.more (s : SR K Z pn σ H ρ) (hn : H a = none) (ht : H' a ≠ none) (h : ∀ b o, H b = some o → H' b = some o) : SR K (plus Z a) pn σ H' ρ := by
  have s' := s.heap h
  have e : Ext (Wof Z σ ρ) (Wof (plus Z a) σ ρ) H H' := fun b o q n => ⟨h b o q, fun z => by
    rcases z.of_plus with z | z
    · exact n z
    · rw [z, hn] at q; cases q⟩
  refine ⟨s.len, fun b q => ?_, fun i v e1 => ?_, fun i v e1 => ?_, s.inj, s.pins⟩
  · rcases q with q | q
    · exact s'.zt b q
    · rw [q]; exact ht
  · obtain ⟨x, e2, r⟩ := s.fz i v e1
    exact ⟨x, e2, r.ext e⟩
  · obtain ⟨b, e2, n, o⟩ := s.ow i v e1
    refine ⟨b, e2, fun z => ?_, o.ext e ?_⟩
    · rcases z with z | z
      · exact n z
      · rw [z] at o; exact o.some hn
    · cases r : H b with
      | none => exact absurd r o.some
      | some u => rw [h b u r]

/-- .. and what is forbidden does not change -/
structure Stp (Z W W' : AS) (H H' : Hp) : Prop where
  ext : Ext W W' H H'
  zk : ∀ b, Z b → H' b = H b
theorem Stp.refl {W : AS} : Stp Z W W H H := ⟨Ext.refl, fun _ _ => rfl⟩
theorem Stp.trans {W W' W'' : AS} (a : Stp Z W W' H H') (b : Stp Z W' W'' H' H'') : Stp Z W W'' H H'' := ⟨a.ext.trans b.ext, fun c h => (b.zk c h).trans (a.zk c h)⟩
theorem Stp.less {W W' : AS} (h : ∀ b, W' b → W b) : Stp Z W W' H H := ⟨Ext.less h, fun _ _ => rfl⟩
theorem Stp.grow {W : AS} (h : ∀ b o, H b = some o → H' b = some o) (z : ∀ b, Z b → H b ≠ none) : Stp Z W W H H' := ⟨fun b o q n => ⟨h b o q, n⟩, fun b q => by
  cases r : H b with
  | none => exact absurd r (z b q)
  | some o => exact h b o r⟩
theorem Stp.growPlus {W : AS} (h : ∀ b o, H b = some o → H' b = some o) (z : ∀ b, Z b → H b ≠ none) (hn : H a = none) : Stp Z W (fun b => W b ∨ b = a) H H' := ⟨fun b o q n => ⟨h b o q, fun y => by
    rcases y with y | y
    · exact n y
    · rw [y, hn] at q; cases q⟩, (Stp.grow (W := W) h z).zk⟩
/-- behind an expression -/
def PostE (K : PySem.W.Frag) (Z : AS) (pn : Nat → Option Addr) (σ : L2.St) (H : Hp) (ρ : Env) (r : RV) (ρ' : Env) (x : V) (H' : Hp) : Prop :=
  match r with
  | .fz v => SR K Z pn σ H' ρ' ∧ Stp Z (Wof Z σ ρ) (Wof Z σ ρ') H H' ∧ Rep K (Wof Z σ ρ') H' v x
  | .fr v => ∃ a, x = .ref a ∧ SR K (plus Z a) pn σ H' ρ' ∧ Stp Z (Wof Z σ ρ) (Wof (plus Z a) σ ρ') H H' ∧ ¬ Wof Z σ ρ' a ∧ Own K (Wof (plus Z a) σ ρ') H' v a
theorem PostE.freeze {r : RV} {x : V} (h : PostE K Z pn σ H ρ r ρ' x H') : SR K Z pn σ H' ρ' ∧ Stp Z (Wof Z σ ρ) (Wof Z σ ρ') H H' ∧ Rep K (Wof Z σ ρ') H' r.val x := by
  cases r with
  | fz v => exact h
  | fr v =>
    obtain ⟨a, rfl, s, e, n, o⟩ := h
    exact ⟨s.less fun b q => .inl q, e.trans (Stp.less Wof.plus_sub), o.rep Wof.plus_sub n⟩
theorem PostE.pre {r : RV} {x : V} (e : Stp Z (Wof Z σ ρ) (Wof Z σ ρ') H H') (h : PostE K Z pn σ H' ρ' r ρ'' x H'') : PostE K Z pn σ H ρ r ρ'' x H'' := by
  cases r with
  | fz v => exact ⟨h.1, e.trans h.2.1, h.2.2⟩
  | fr v =>
    obtain ⟨a, e1, s, e2, n, o⟩ := h
    exact ⟨a, e1, s, e.trans e2, n, o⟩
theorem upd_keeps {p : Addr} {o : HO} (hn : H p = none) : ∀ b u, H b = some u → upd H p o b = some u := fun b u e => by
  rw [upd_ne (ne_of_none e hn)]
  exact e
/-- a new tuple -/
theorem PostE.tup {xs : List PV} {vs : List V} {p : Addr} (s : SR K Z pn σ H ρ) (r : Reps K (Wof Z σ ρ) H xs vs) (hn : H p = none) : PostE K Z pn σ H ρ (.fz (.tup xs)) ρ (.ref p) (upd H p (.tup vs)) := by
  have e : Stp Z (Wof Z σ ρ) (Wof Z σ ρ) H (upd H p (.tup vs)) := Stp.grow (upd_keeps hn) s.zt
  exact ⟨s.heap (upd_keeps hn), e, p, vs, rfl, .inl ⟨.inl upd_same, fun z => s.wt p z hn⟩, r.ext e.ext⟩
/-- a new list -/
theorem PostE.lst {xs : List PV} {vs : List V} {p : Addr} (s : SR K Z pn σ H ρ) (r : Reps K (Wof Z σ ρ) H xs vs) (hn : H p = none) : PostE K Z pn σ H ρ (.fr (.lst xs)) ρ (.ref p) (upd H p (.lst vs)) := by
  have e : Stp Z (Wof Z σ ρ) (Wof (plus Z p) σ ρ) H (upd H p (.lst vs)) := ⟨fun b o q n => ⟨upd_keeps hn b o q, fun z => by
    rcases z.of_plus with z | z
    · exact n z
    · rw [z, hn] at q; cases q⟩, (Stp.grow (W := Wof Z σ ρ) (upd_keeps hn) s.zt).zk⟩
  exact ⟨p, rfl, s.more hn (by rw [upd_same]; exact fun z => nomatch z) (upd_keeps hn), e, fun z => s.wt p z hn, vs, upd_same, r.ext e.ext⟩
/-- a value that stands already -/
theorem PostE.val {v : PV} {x : V} (s : SR K Z pn σ H ρ) (r : Rep K (Wof Z σ ρ) H v x) : PostE K Z pn σ H ρ (.fz v) ρ x H := ⟨s, Stp.refl, r⟩
end
end EV
set_option Elab.async false
set_option linter.all false
set_option maxRecDepth 100000
namespace EV
open PySem PySem.Spec PyProof.Rows L2
section
variable {K : PySem.W.Frag} {Z Z' : AS} {pn : Nat → Option Addr} {σ σ' : L2.St} {H H' H'' : Hp} {ρ ρ' ρ'' : Env} {a : Addr} {i j : Nat} {v w u : PV} {x y : V}

theorem get_set {α : Type} {l : List α} {i j : Nat} {z y : α} (h : (l.set i z)[j]? = some y) : (i = j ∧ y = z ∧ i < l.length) ∨ (i ≠ j ∧ l[j]? = some y) := by
  by_cases e : i = j
  · subst e
    by_cases hl : i < l.length
    · rw [List.getElem?_set_self hl] at h
      exact .inl ⟨rfl, (Option.some.inj h).symm, hl⟩
    · rw [List.getElem?_eq_none (by rw [List.length_set]; omega)] at h
      cases h
  · rw [List.getElem?_set_ne e] at h
    exact .inr ⟨e, h⟩
theorem lt_of_get {α : Type} {l : List α} {i : Nat} {y : α} (h : l[i]? = some y) : i < l.length := (List.getElem?_eq_some_iff.mp h).1

theorem IsOw.set {s : Slot} (h : IsOw (ρ.set i s) j v) : (i = j ∧ i < ρ.length ∧ (s = .ow v ∨ s = .pn v)) ∨ (i ≠ j ∧ IsOw ρ j v) := by
  rcases h with h | h
  · rcases get_set h with ⟨e, e2, l⟩ | ⟨n, e⟩
    · exact .inl ⟨e, l, .inl e2.symm⟩
    · exact .inr ⟨n, .inl e⟩
  · rcases get_set h with ⟨e, e2, l⟩ | ⟨n, e⟩
    · exact .inl ⟨e, l, .inr e2.symm⟩
    · exact .inr ⟨n, .inr e⟩
theorem IsOw.fzNot (h : IsOw (ρ.set i (.fz w)) j v) : i ≠ j ∧ IsOw ρ j v := by
  rcases h.set with ⟨_, _, e | e⟩ | h
  · cases e
  · cases e
  · exact h
theorem IsOw.unNot (h : IsOw (ρ.set i .un) j v) : i ≠ j ∧ IsOw ρ j v := by
  rcases h.set with ⟨_, _, e | e⟩ | h
  · cases e
  · cases e
  · exact h
/-- a slot that holds data from here on -/
theorem SR.setFz (s : SR K Z pn σ H ρ) (hi : i < ρ.length) (r : Rep K (Wof Z (σ.set i (some x)) (ρ.set i (.fz v))) H v x) :
    SR K Z pn (σ.set i (some x)) H (ρ.set i (.fz v)) ∧ ∀ b, Wof Z (σ.set i (some x)) (ρ.set i (.fz v)) b → Wof Z σ ρ b := by
  have hw : ∀ b, Wof Z (σ.set i (some x)) (ρ.set i (.fz v)) b → Wof Z σ ρ b := fun b q => by
    rcases q with q | ⟨j, w, h1, h2⟩
    · exact .inl q
    · obtain ⟨n, h1⟩ := h1.fzNot
      rw [List.getElem?_set_ne n] at h2
      exact .inr ⟨j, w, h1, h2⟩
  refine ⟨⟨by rw [List.length_set, List.length_set]; exact s.len, s.zt, fun j w e => ?_, fun j w e => ?_, fun j k b w w' e e' h1 h2 => ?_, fun j w b e h1 => ?_⟩, hw⟩
  · rcases get_set e with ⟨e1, e2, l⟩ | ⟨n, e⟩
    · subst e1
      cases e2
      exact ⟨x, List.getElem?_set_self (by rw [s.len]; exact l), r⟩
    · obtain ⟨z, e1, q⟩ := s.fz j w e
      exact ⟨z, by rw [List.getElem?_set_ne n]; exact e1, q.ext (Ext.less hw)⟩
  · obtain ⟨n, e⟩ := e.fzNot
    obtain ⟨b, e1, nz, o⟩ := s.ow j w e
    exact ⟨b, by rw [List.getElem?_set_ne n]; exact e1, nz, o.ext (Ext.less hw) rfl⟩
  · obtain ⟨n, e⟩ := e.fzNot
    obtain ⟨n', e'⟩ := e'.fzNot
    rw [List.getElem?_set_ne n] at h1
    rw [List.getElem?_set_ne n'] at h2
    exact s.inj j k b w w' e e' h1 h2
  · rcases get_set e with ⟨e1, e2, l⟩ | ⟨n, e⟩
    · cases e2
    · rw [List.getElem?_set_ne n] at h1
      exact s.pins j w b e h1
/-- a slot that holds nothing from here on -/
theorem SR.setUn {y : Option V} (s : SR K Z pn σ H ρ) : SR K Z pn (σ.set i y) H (ρ.set i .un) ∧ ∀ b, Wof Z (σ.set i y) (ρ.set i .un) b → Wof Z σ ρ b := by
  have hw : ∀ b, Wof Z (σ.set i y) (ρ.set i .un) b → Wof Z σ ρ b := fun b q => by
    rcases q with q | ⟨j, w, h1, h2⟩
    · exact .inl q
    · obtain ⟨n, h1⟩ := h1.unNot
      rw [List.getElem?_set_ne n] at h2
      exact .inr ⟨j, w, h1, h2⟩
  refine ⟨⟨by rw [List.length_set, List.length_set]; exact s.len, s.zt, fun j w e => ?_, fun j w e => ?_, fun j k b w w' e e' h1 h2 => ?_, fun j w b e h1 => ?_⟩, hw⟩
  · rcases get_set e with ⟨e1, e2, l⟩ | ⟨n, e⟩
    · cases e2
    · obtain ⟨z, e1, q⟩ := s.fz j w e
      exact ⟨z, by rw [List.getElem?_set_ne n]; exact e1, q.ext (Ext.less hw)⟩
  · obtain ⟨n, e⟩ := e.unNot
    obtain ⟨b, e1, nz, o⟩ := s.ow j w e
    exact ⟨b, by rw [List.getElem?_set_ne n]; exact e1, nz, o.ext (Ext.less hw) rfl⟩
  · obtain ⟨n, e⟩ := e.unNot
    obtain ⟨n', e'⟩ := e'.unNot
    rw [List.getElem?_set_ne n] at h1
    rw [List.getElem?_set_ne n'] at h2
    exact s.inj j k b w w' e e' h1 h2
  · rcases get_set e with ⟨e1, e2, l⟩ | ⟨n, e⟩
    · cases e2
    · rw [List.getElem?_set_ne n] at h1
      exact s.pins j w b e h1
/-- a new list comes into a slot -/
theorem SR.setOw (s : SR K (plus Z a) pn σ H ρ) (hi : i < ρ.length) (na : ¬ Wof Z σ ρ a) (o : Own K (Wof (plus Z a) σ ρ) H v a) :
    SR K Z pn (σ.set i (some (.ref a))) H (ρ.set i (.ow v)) ∧ ∀ b, Wof Z (σ.set i (some (.ref a))) (ρ.set i (.ow v)) b → Wof (plus Z a) σ ρ b := by
  have hw : ∀ b, Wof Z (σ.set i (some (.ref a))) (ρ.set i (.ow v)) b → Wof (plus Z a) σ ρ b := fun b q => by
    rcases q with q | ⟨j, w, h1, h2⟩
    · exact .inl (.inl q)
    · rcases h1.set with ⟨e, l, _⟩ | ⟨n, h1⟩
      · subst e
        rw [List.getElem?_set_self (by rw [s.len]; exact l)] at h2
        cases h2
        exact .inl (.inr rfl)
      · rw [List.getElem?_set_ne n] at h2
        exact .inr ⟨j, w, h1, h2⟩
  have here : (σ.set i (some (V.ref a)))[i]? = some (some (.ref a)) := List.getElem?_set_self (by rw [s.len]; exact hi)
  refine ⟨⟨by rw [List.length_set, List.length_set]; exact s.len, fun b q => s.zt b (.inl q), fun j w e => ?_, fun j w e => ?_, fun j k b w w' e e' h1 h2 => ?_, fun j w b e h1 => ?_⟩, hw⟩
  · rcases get_set e with ⟨e1, e2, l⟩ | ⟨n, e⟩
    · cases e2
    · obtain ⟨z, e1, q⟩ := s.fz j w e
      exact ⟨z, by rw [List.getElem?_set_ne n]; exact e1, q.ext (Ext.less hw)⟩
  · rcases e.set with ⟨e, l, q⟩ | ⟨n, e⟩
    · subst e
      have : w = v := by
        rcases q with q | q
        · cases q; rfl
        · cases q
      subst this
      exact ⟨a, here, fun z => na (.inl z), o.ext (Ext.less hw) rfl⟩
    · obtain ⟨b, e1, nz, o'⟩ := s.ow j w e
      exact ⟨b, by rw [List.getElem?_set_ne n]; exact e1, fun z => nz (.inl z), o'.ext (Ext.less hw) rfl⟩
  · rcases e.set with ⟨q, l, _⟩ | ⟨n, e⟩
    · rcases e'.set with ⟨q', l', _⟩ | ⟨n', e'⟩
      · rw [← q, ← q']
      · subst q
        rw [here] at h1
        cases h1
        rw [List.getElem?_set_ne n'] at h2
        exact absurd (.inr ⟨k, w', e', h2⟩) na
    · rcases e'.set with ⟨q', l', _⟩ | ⟨n', e'⟩
      · subst q'
        rw [here] at h2
        cases h2
        rw [List.getElem?_set_ne n] at h1
        exact absurd (.inr ⟨j, w, e, h1⟩) na
      · rw [List.getElem?_set_ne n] at h1
        rw [List.getElem?_set_ne n'] at h2
        exact s.inj j k b w w' e e' h1 h2
  · rcases get_set e with ⟨e1, e2, l⟩ | ⟨n, e⟩
    · cases e2
    · rw [List.getElem?_set_ne n] at h1
      exact s.pins j w b e h1
/-- a name read as a value that is held from here on -/
theorem SR.use {r : RV} (s : SR K Z pn σ H ρ) (h : use i ρ = some (r, ρ')) : ∃ x, σ[i]? = some (some x) ∧ PostE K Z pn σ H ρ r ρ' x H := by
  unfold EV.use at h
  split at h
  · rename_i v e
    cases h
    obtain ⟨x, e1, q⟩ := s.fz i v e
    exact ⟨x, e1, s, Stp.refl, q⟩
  · rename_i v e
    cases h
    obtain ⟨b, e1, nz, o⟩ := s.ow i v (.inl e)
    have hl := lt_of_get e
    have es : σ.set i (some (V.ref b)) = σ := by
      apply List.ext_getElem?
      intro k
      by_cases hk : i = k
      · subst hk
        rw [List.getElem?_set_self (by rw [s.len]; exact hl), e1]
      · rw [List.getElem?_set_ne hk]
    have nb : ¬ Wof Z σ (ρ.set i (.fz v)) b := fun z => by
      rcases z with z | ⟨j, w, h1, h2⟩
      · exact nz z
      · obtain ⟨n, h1⟩ := h1.fzNot
        exact n (s.inj i j b v w (.inl e) h1 e1 h2)
    have hw : ∀ c, Wof Z σ (ρ.set i (.fz v)) c → Wof Z σ ρ c := fun c q => by
      rcases q with q | ⟨j, w, h1, h2⟩
      · exact .inl q
      · obtain ⟨n, h1⟩ := h1.fzNot
        exact .inr ⟨j, w, h1, h2⟩
    have rp : Rep K (Wof Z σ (ρ.set i (.fz v))) H v (.ref b) := o.rep hw nb
    obtain ⟨s2, _⟩ := s.setFz (x := .ref b) (v := v) hl (by rw [es]; exact rp)
    rw [es] at s2
    exact ⟨.ref b, e1, s2, Stp.less hw, rp⟩
  · cases h
/-- a name read for the last time -/
theorem SR.takeE {r : RV} (s : SR K Z pn σ H ρ) (h : takeE i ρ = some (r, ρ')) : ∃ x, σ[i]? = some (some x) ∧ PostE K Z pn σ H ρ r ρ' x H := by
  unfold EV.takeE at h
  split at h
  · rename_i v e
    cases h
    obtain ⟨b, e1, nz, o⟩ := s.ow i v (.inl e)
    have hl := lt_of_get e
    have wb : Wof Z σ ρ b := .inr ⟨i, v, .inl e, e1⟩
    have nb : ¬ Wof Z σ (ρ.set i .un) b := fun z => by
      rcases z with z | ⟨j, w, h1, h2⟩
      · exact nz z
      · obtain ⟨n, h1⟩ := h1.unNot
        exact n (s.inj i j b v w (.inl e) h1 e1 h2)
    have hw : ∀ c, Wof (plus Z b) σ (ρ.set i .un) c → Wof Z σ ρ c := fun c q => by
      rcases q with (q | q) | ⟨j, w, h1, h2⟩
      · exact .inl q
      · rw [q]; exact wb
      · obtain ⟨n, h1⟩ := h1.unNot
        exact .inr ⟨j, w, h1, h2⟩
    refine ⟨.ref b, e1, b, rfl, ⟨by rw [List.length_set]; exact s.len, fun c q => ?_, fun j w e' => ?_, fun j w e' => ?_, fun j k c w w' e' e'' h1 h2 => ?_, fun j w c e' h1 => ?_⟩, ⟨Ext.less hw, fun _ _ => rfl⟩, nb, o.ext (Ext.less hw) rfl⟩
    · rcases q with q | q
      · exact s.zt c q
      · rw [q]; exact s.wt b wb
    · rcases get_set e' with ⟨_, e2, _⟩ | ⟨n, e'⟩
      · cases e2
      · obtain ⟨z, e3, q⟩ := s.fz j w e'
        exact ⟨z, e3, q.ext (Ext.less hw)⟩
    · obtain ⟨n, e'⟩ := e'.unNot
      obtain ⟨c, e3, nz', o'⟩ := s.ow j w e'
      refine ⟨c, e3, fun z => ?_, o'.ext (Ext.less hw) rfl⟩
      rcases z with z | z
      · exact nz' z
      · exact n (s.inj i j b v w (.inl e) e' e1 (z ▸ e3))
    · obtain ⟨n, e'⟩ := e'.unNot
      obtain ⟨n', e''⟩ := e''.unNot
      exact s.inj j k c w w' e' e'' h1 h2
    · rcases get_set e' with ⟨_, e2, _⟩ | ⟨n, e'⟩
      · cases e2
      · exact s.pins j w c e' h1
  · exact s.use h
/-- a name only looked at -/
theorem SR.peek (s : SR K Z pn σ H ρ) (h : peek i ρ = some v) : ∃ x, σ[i]? = some (some x) ∧ BRep K (Wof Z σ ρ) H v x := by
  unfold EV.peek at h
  split at h
  · rename_i w e
    cases h
    obtain ⟨x, e1, q⟩ := s.fz i v e
    exact ⟨x, e1, q.b⟩
  · rename_i w e
    cases h
    obtain ⟨b, e1, nz, o⟩ := s.ow i v (.inl e)
    exact ⟨_, e1, o.b⟩
  · rename_i w e
    cases h
    obtain ⟨b, e1, nz, o⟩ := s.ow i v (.inr e)
    exact ⟨_, e1, o.b⟩
  · cases h
/-- an answer stored at a name -/
theorem PostE.put {r : RV} (p : PostE K Z pn σ H ρ r ρ' x H') (h : put i r ρ' = some ρ'') :
    SR K Z pn (σ.set i (some x)) H' ρ'' ∧ Stp Z (Wof Z σ ρ) (Wof Z (σ.set i (some x)) ρ'') H H' := by
  unfold EV.put at h
  split at h
  · cases h
  · rename_i sl _ e
    cases h
    have hl := lt_of_get e
    cases r with
    | fz v =>
      obtain ⟨s, ex, q⟩ := p
      have hw : ∀ b, Wof Z (σ.set i (some x)) (ρ'.set i (.fz v)) b → Wof Z σ ρ' b := fun b q => by
        rcases q with q | ⟨j, w, h1, h2⟩
        · exact .inl q
        · obtain ⟨n, h1⟩ := h1.fzNot
          rw [List.getElem?_set_ne n] at h2
          exact .inr ⟨j, w, h1, h2⟩
      exact ⟨(s.setFz hl (q.ext (Ext.less hw))).1, ex.trans (Stp.less hw)⟩
    | fr v =>
      obtain ⟨a, rfl, s, ex, na, o⟩ := p
      obtain ⟨s2, hw⟩ := s.setOw hl na o
      exact ⟨s2, ex.trans (Stp.less hw)⟩
  · cases h
/-- an owned list is changed -/
theorem SR.change {xs ys : List PV} {us : List V} (s : SR K Z pn σ H ρ) (ho : IsOw ρ i (.lst xs)) (ha : σ[i]? = some (some (.ref a))) (r : Reps K (Wof Z σ ρ) H ys us)
    (hr : (ρ[i]? = some (Slot.ow (.lst xs)) ∧ ρ' = ρ.set i (.ow (.lst ys))) ∨ (ρ[i]? = some (Slot.pn (.lst xs)) ∧ ρ' = ρ.set i (.pn (.lst ys)))) :
    SR K Z pn σ (upd H a (.lst us)) ρ' ∧ Stp Z (Wof Z σ ρ) (Wof Z σ ρ') H (upd H a (.lst us)) := by
  have hl : i < ρ.length := by
    rcases hr with ⟨e, _⟩ | ⟨e, _⟩
    · exact lt_of_get e
    · exact lt_of_get e
  have wa : Wof Z σ ρ a := .inr ⟨i, _, ho, ha⟩
  have ow' : ∀ j w, IsOw ρ' j w → (i = j ∧ w = .lst ys) ∨ (i ≠ j ∧ IsOw ρ j w) := fun j w h => by
    rcases hr with ⟨e, rfl⟩ | ⟨e, rfl⟩
    · rcases h.set with ⟨e1, _, e2 | e2⟩ | h
      · cases e2; exact .inl ⟨e1, rfl⟩
      · cases e2
      · exact .inr h
    · rcases h.set with ⟨e1, _, e2 | e2⟩ | h
      · cases e2
      · cases e2; exact .inl ⟨e1, rfl⟩
      · exact .inr h
  have hw : ∀ b, Wof Z σ ρ' b → Wof Z σ ρ b := fun b q => by
    rcases q with q | ⟨j, w, h1, h2⟩
    · exact .inl q
    · rcases ow' j w h1 with ⟨e, _⟩ | ⟨n, h1⟩
      · subst e; exact .inr ⟨i, _, ho, h2⟩
      · exact .inr ⟨j, w, h1, h2⟩
  have ex : Ext (Wof Z σ ρ) (Wof Z σ ρ') H (upd H a (.lst us)) := fun b o e n => by
    have nb : b ≠ a := fun z => n (by rw [z]; exact wa)
    exact ⟨by rw [upd_ne nb]; exact e, fun z => n (hw b z)⟩
  have len' : ρ'.length = ρ.length := by
    rcases hr with ⟨_, rfl⟩ | ⟨_, rfl⟩ <;> rw [List.length_set]
  have fz' : ∀ (j : Nat) (w : PV), ρ'[j]? = some (Slot.fz w) → ρ[j]? = some (Slot.fz w) := fun j w e => by
    rcases hr with ⟨_, rfl⟩ | ⟨_, rfl⟩
    · rcases get_set e with ⟨_, e2, _⟩ | ⟨_, e⟩
      · cases e2
      · exact e
    · rcases get_set e with ⟨_, e2, _⟩ | ⟨_, e⟩
      · cases e2
      · exact e
  have nza : ¬ Z a := by
    obtain ⟨b, e1, nz, _⟩ := s.ow i _ ho
    rw [ha] at e1
    cases e1
    exact nz
  refine ⟨⟨by rw [len']; exact s.len, fun b q => ?_, fun j w e => ?_, fun j w e => ?_, fun j k b w w' e e' h1 h2 => ?_, fun j w b e h1 => ?_⟩, ex, fun b q => upd_ne fun z => nza (z ▸ q)⟩
  · by_cases hb : b = a
    · rw [hb, upd_same]; exact fun z => nomatch z
    · rw [upd_ne hb]; exact s.zt b q
  · obtain ⟨z, e1, q⟩ := s.fz j w (fz' j w e)
    exact ⟨z, e1, q.ext ex⟩
  · rcases ow' j w e with ⟨e1, e2⟩ | ⟨n, e⟩
    · subst e1; subst e2
      obtain ⟨b, e1, nz, _⟩ := s.ow i _ ho
      rw [ha] at e1
      cases e1
      exact ⟨a, ha, nz, us, upd_same, r.ext ex⟩
    · obtain ⟨b, e1, nz, o⟩ := s.ow j w e
      have nb : b ≠ a := fun z => n (s.inj i j a _ w ho e ha (z ▸ e1))
      exact ⟨b, e1, nz, o.ext ex (by rw [upd_ne nb])⟩
  · have g : ∀ j w, IsOw ρ' j w → ∃ w', IsOw ρ j w' := fun j w e => by
      rcases ow' j w e with ⟨e1, _⟩ | ⟨_, e⟩
      · subst e1; exact ⟨_, ho⟩
      · exact ⟨_, e⟩
    obtain ⟨u, q⟩ := g j w e
    obtain ⟨u', q'⟩ := g k w' e'
    exact s.inj j k b u u' q q' h1 h2
  · have : ∃ w', ρ[j]? = some (Slot.pn w') := by
      rcases hr with ⟨_, rfl⟩ | ⟨e0, rfl⟩
      · rcases get_set e with ⟨_, e2, _⟩ | ⟨_, e⟩
        · cases e2
        · exact ⟨_, e⟩
      · rcases get_set e with ⟨e1, e2, _⟩ | ⟨_, e⟩
        · subst e1; exact ⟨_, e0⟩
        · exact ⟨_, e⟩
    obtain ⟨w', e⟩ := this
    exact s.pins j w' b e h1
end
end EV
set_option Elab.async false
set_option linter.all false
set_option maxRecDepth 100000
namespace EV
open PySem PySem.Spec PyProof.Rows L2
theorem LIM_eq : LIM = sizeLine := by rw [sizeLine_eq]; rfl
section
variable {X : Cx}
/-- two lists that are read, put together -/
def rCatL (K : PySem.W.Frag) : R2 := fun x y H Q => ∃ l b xs zs, x = .ref l ∧ y = .ref b ∧ SqL K H l xs ∧ SqL K H b zs ∧ xs.length + zs.length ≤ sizeLine ∧ ∀ p, H p = none → Q (.ref p) (upd H p (.lst (xs ++ zs)))
theorem op_catL : OpR X (binaryOp .Add) (rCatL X.K) := by
  intro pins s σ H x y v u Q I rx ry h
  obtain ⟨l, b, xs, zs, rfl, rfl, hl, hb, hz, q⟩ := h
  cases rx
  cases ry
  obtain ⟨its, r, pl, _⟩ := I.list hl
  obtain ⟨its2, r2, pl2, _⟩ := I.list hb
  obtain ⟨⟨cls, dd, data, sl⟩, n, ho, hc, _, hd⟩ := pl
  obtain ⟨⟨cls2, dd2, data2, sl2⟩, n2, ho2, hc2, _, hd2⟩ := pl2
  simp only at hc hd hc2 hd2
  subst hc hd hc2 hd2
  have e : its.toArray ++ its2.toArray = (its ++ its2).toArray := by simp
  refine concat_meets ⟨_, ho, rfl⟩ ⟨_, ho2, rfl⟩ noFill_list_add seq_list_add PySem.F.slot_list_add PySem.F.entry_list_add (PySem.F.args_list_add_2 _ _) (list_addW l b its.toArray its2.toArray n n2 dd dd2 sl sl2 (by rw [List.size_toArray, List.size_toArray, ← r.length, ← r2.length]; exact hz)) ⟨ho, ho2, ?_⟩
  rw [e]
  exact ⟨.ref _, _, I.lnew (t' := s.toks) (r.append r2) (by rw [List.length_append]; exact hz), rfl, q _ I.fresh⟩
/-- a power -/
def CPowW (i j : Int) : Prop := 0 ≤ j ∧ j ≤ 1000 ∧ i.natAbs < 2 ^ 1024
theorem op_powW : OpR X (binaryOp .Pow) (rI CPowW fun i j => .int (i ^ j.toNat)) := opI fun i j _ _ _ _ _ hc q => by
  obtain ⟨h0, h1, h2⟩ := hc
  refine pow_int h0 ?_ q
  have hb : (Builtin.Int.intBits i : Int) ≤ 1024 := by
    have e : Builtin.Int.intBits i = (if i.natAbs = 0 then 0 else i.natAbs.log2 + 1) := by
      first | rfl | (unfold Builtin.Int.intBits; rfl) | (unfold Builtin.Int.intBits; simp)
    rw [e]
    by_cases z : i.natAbs = 0
    · rw [if_pos z]; decide
    · rw [if_neg z]
      have := (Nat.log2_lt z).mpr h2
      omega
  have hb0 : (0 : Int) ≤ (Builtin.Int.intBits i : Int) := Int.natCast_nonneg _
  have : (Builtin.Int.intBits i : Int) * j ≤ 1024 * 1000 := by
    refine Int.le_trans (Int.mul_le_mul_of_nonneg_right hb h0) (Int.mul_le_mul_of_nonneg_left h1 (by decide))
  omega
end

/-! ### data as the library's data -/
mutual
def PV.toD : PV → PyData
  | .non => .none
  | .bl b => .bool b
  | .int i => .int i
  | .str x => .str x
  | .tup xs => .tuple (toDs xs)
  | .lst xs => .list (toDs xs)
  | .dct _ => .none
def toDs : List PV → List PyData
  | [] => []
  | x :: xs => x.toD :: toDs xs
end
mutual
theorem peq_eqv : ∀ (x y : PV), x.flat = true → y.flat = true → peq x y = PyData.eqv x.toD y.toD
  | .non, y, _, hy => by cases y <;> simp [peq, PV.toD, PyData.eqv, PV.flat] at hy ⊢
  | .bl a, y, _, hy => by cases y <;> simp [peq, PV.toD, PyData.eqv, PV.flat] at hy ⊢
  | .int a, y, _, hy => by cases y <;> simp [peq, PV.toD, PyData.eqv, PV.flat] at hy ⊢
  | .str a, y, _, hy => by cases y <;> simp [peq, PV.toD, PyData.eqv, PV.flat] at hy ⊢
  | .lst xs, y, hx, hy => by
    cases y with
    | lst ys =>
      show peqs xs ys = PyData.eqvAll (toDs xs) (toDs ys)
      exact peqs_eqv xs ys hx hy
    | _ => simp [peq, PV.toD, PyData.eqv, PV.flat] at hy ⊢
  | .tup xs, y, hx, hy => by
    cases y with
    | tup ys =>
      show peqs xs ys = PyData.eqvAll (toDs xs) (toDs ys)
      exact peqs_eqv xs ys hx hy
    | _ => simp [peq, PV.toD, PyData.eqv, PV.flat] at hy ⊢
  | .dct _, _, hx, _ => by simp [PV.flat] at hx
theorem peqs_eqv : ∀ (xs ys : List PV), flats xs = true → flats ys = true → peqs xs ys = PyData.eqvAll (toDs xs) (toDs ys)
  | [], ys, _, _ => by cases ys <;> rfl
  | x :: xs, [], _, _ => rfl
  | x :: xs, y :: ys, hx, hy => by
    have hx' : x.flat = true ∧ flats xs = true := by simpa [flats] using hx
    have hy' : y.flat = true ∧ flats ys = true := by simpa [flats] using hy
    show (peq x y && peqs xs ys) = (PyData.eqv x.toD y.toD && PyData.eqvAll (toDs xs) (toDs ys))
    rw [peq_eqv x y hx'.1 hy'.1, peqs_eqv xs ys hx'.2 hy'.2]
end
mutual
theorem canLay_toD : ∀ x : PV, x.flat = true → x.toD.canLay0 = true
  | .non, _ => rfl
  | .bl _, _ => rfl
  | .int _, _ => rfl
  | .str x, h => h
  | .tup xs, h => by
    show PyData.canLay0 (.tuple (toDs xs)) = true
    have := canLay_toDs xs h
    simpa [PyData.canLay0] using this
  | .lst xs, h => by
    show PyData.canLay0 (.list (toDs xs)) = true
    have := canLay_toDs xs h
    simpa [PyData.canLay0] using this
  | .dct _, _ => rfl
theorem canLay_toDs : ∀ xs : List PV, flats xs = true → PyData.canLayAll0 (toDs xs) = true
  | [], _ => rfl
  | x :: xs, h => by
    have h' : x.flat = true ∧ flats xs = true := by simpa [flats] using h
    show PyData.canLayAll0 (x.toD :: toDs xs) = true
    simp [PyData.canLayAll0, canLay_toD x h'.1, canLay_toDs xs h'.2]
end
mutual
theorem dep_toD : ∀ x : PV, x.flat = true → x.toD.depth = x.dep
  | .non, _ => rfl
  | .bl _, _ => rfl
  | .int _, _ => rfl
  | .str x, h => rfl
  | .tup xs, h => by
    show PyData.depthAll (toDs xs) + 1 = deps xs + 1
    rw [dep_toDs xs h]
  | .lst xs, h => by
    show PyData.depthAll (toDs xs) + 1 = deps xs + 1
    rw [dep_toDs xs h]
  | .dct _, h => by simp [PV.flat] at h
theorem dep_toDs : ∀ xs : List PV, flats xs = true → PyData.depthAll (toDs xs) = deps xs
  | [], _ => rfl
  | x :: xs, h => by
    have h' : x.flat = true ∧ flats xs = true := by simpa [flats] using h
    show max x.toD.depth (PyData.depthAll (toDs xs)) = max x.dep (deps xs)
    rw [dep_toD x h'.1, dep_toDs xs h'.2]
end
section
variable {X : Cx} {pins : List (Addr × Obj)} {σ : L2.St} {H : Hp} {s : Shared} {W : AS}
mutual
theorem Rep.reads (I : Inv X pins σ H s) : ∀ (v : PV) (x : V) (u : Value), Rep X.K W H v x → RelV x u → ∃ as, Reads s.heap u v.toD as
  | .non, _, _, h, r => by
    cases h
    cases r
    exact ⟨_, Reads.none⟩
  | .bl b, _, _, h, r => by
    cases h
    cases r
    exact ⟨_, Reads.bool b⟩
  | .int i, _, _, h, r => by
    cases h
    obtain ⟨t, rfl⟩ := r
    exact ⟨_, Reads.int i t⟩
  | .str x, _, _, h, r => by
    cases h
    obtain ⟨t, rfl⟩ := r
    exact ⟨_, Reads.str x t⟩
  | .lst ds, _, _, h, r => by
    obtain ⟨a, vs, rfl, hs, ha⟩ := h
    cases r
    obtain ⟨its, rv, ⟨o, n, ho, hc, _, hd⟩, _⟩ := I.list hs.sq
    obtain ⟨as, hr⟩ := Rep.readsAll I ds _ its ha rv
    exact ⟨_, Reads.list ho hc hd hr⟩
  | .tup ds, _, _, h, r => by
    obtain ⟨a, vs, rfl, hs, ha⟩ := h
    cases r
    obtain ⟨its, rv, ⟨o, ho, hc, n, hd⟩, _⟩ := I.tuple hs.sq
    obtain ⟨as, hr⟩ := Rep.readsAll I ds _ its ha rv
    exact ⟨_, Reads.tuple ho hc hd hr⟩
  | .dct _, _, _, h, _ => by exact False.elim h
theorem Rep.readsAll (I : Inv X pins σ H s) : ∀ (ds : List PV) (vs : List V) (us : List Value), Reps X.K W H ds vs → Vals vs us → ∃ as, ReadsAll s.heap us (toDs ds) as
  | [], _, _, h, r => by
    cases (show _ = [] from h)
    cases r
    exact ⟨_, ReadsAll.nil⟩
  | d :: ds, _, _, h, r => by
    obtain ⟨v, vr, rfl, h1, h2⟩ := h
    cases r with
    | cons r1 r2 =>
      obtain ⟨as, q1⟩ := Rep.reads I d _ _ h1 r1
      obtain ⟨bs, q2⟩ := Rep.readsAll I ds _ _ h2 r2
      exact ⟨_, ReadsAll.cons q1 q2⟩
end
theorem BRep.reads (I : Inv X pins σ H s) (v : PV) (x : V) (u : Value) (h : BRep X.K W H v x) (r : RelV x u) : ∃ as, Reads s.heap u v.toD as := by
  cases v with
  | lst ds =>
    obtain ⟨a, vs, rfl, hs, ha⟩ := h
    cases r
    obtain ⟨its, rv, ⟨o, n, ho, hc, _, hd⟩, _⟩ := I.list hs
    obtain ⟨as, hr⟩ := Rep.readsAll I ds _ its ha rv
    exact ⟨_, Reads.list ho hc hd hr⟩
  | tup ds =>
    obtain ⟨a, vs, rfl, hs, ha⟩ := h
    cases r
    obtain ⟨its, rv, ⟨o, ho, hc, n, hd⟩, _⟩ := I.tuple hs.sq
    obtain ⟨as, hr⟩ := Rep.readsAll I ds _ its ha rv
    exact ⟨_, Reads.tuple ho hc hd hr⟩
  | dct _ => exact h.elim
  | non => exact Rep.reads (W := W) I .non x u h r
  | bl b => exact Rep.reads (W := W) I (.bl b) x u h r
  | int b => exact Rep.reads (W := W) I (.int b) x u h r
  | str b => exact Rep.reads (W := W) I (.str b) x u h r
end
/-! ### == and != of data -/
section
variable {X : Cx}
def rEqP (K : PySem.W.Frag) (neg : Bool) : R2 := fun x y H Q => ∃ W v w, BRep K W H v x ∧ BRep K W H w y ∧ eqOk v w = true ∧ Q (.bl (if neg then !peq v w else peq v w)) H
theorem leaf_scal {K : PySem.W.Frag} {W : AS} {H : Hp} {v w : PV} {x y : V} (hv : BRep K W H v x) (hw : BRep K W H w y) (h : leaves v w = true) : scal x y = true ∧ decide (x = y) = peq v w := by
  cases v <;> cases w <;> first
    | (exfalso; simp [leaves] at h; done)
    | (have e1 : x = _ := hv
       have e2 : y = _ := hw
       subst e1
       subst e2
       refine ⟨rfl, ?_⟩
       first | rfl | exact dec_bl | exact dec_int | exact dec_str | simp [peq])
theorem room_min {A : Around} {a b : Nat} (hu : A.units + 64 < cLine) (h : min a b ≤ 60) : A.units + min a b < cLine := by omega
theorem op_eqP (hu : X.A.units + 64 < cLine) : OpR X (compareOp .Eq) (rEqP X.K false) := by
  intro pins s σ H x y v u Q I rx ry h
  obtain ⟨W, d, e, hd, he, ok, q⟩ := h
  unfold eqOk at ok
  by_cases hl : leaves d e = true
  · obtain ⟨h1, h2⟩ := leaf_scal hd he hl
    exact op_eq pins s σ H x y v u Q I rx ry ⟨h1, by rw [h2]; exact q⟩
  · have hl' : leaves d e = false := by simpa using hl
    rw [hl', Bool.false_or, Bool.and_eq_true, Bool.and_eq_true] at ok
    obtain ⟨⟨f1, f2⟩, dd⟩ := ok
    obtain ⟨as, r1⟩ := BRep.reads I d x v hd rx
    obtain ⟨bs, r2⟩ := BRep.reads I e y u he ry
    refine SeqAt.compareEq_reads r1 r2 (canLay_toD d f1) (canLay_toD e f2) (by rw [dep_toD d f1, dep_toD e f2]; exact room_min hu (of_decide_eq_true dd)) ⟨.bl _, H, I, rfl, ?_⟩
    rw [← peq_eqv d e f1 f2]
    exact q
theorem op_neP (hu : X.A.units + 64 < cLine) : OpR X (compareOp .NotEq) (rEqP X.K true) := by
  intro pins s σ H x y v u Q I rx ry h
  obtain ⟨W, d, e, hd, he, ok, q⟩ := h
  unfold eqOk at ok
  by_cases hl : leaves d e = true
  · obtain ⟨h1, h2⟩ := leaf_scal hd he hl
    exact op_ne pins s σ H x y v u Q I rx ry ⟨h1, by rw [h2]; exact q⟩
  · have hl' : leaves d e = false := by simpa using hl
    rw [hl', Bool.false_or, Bool.and_eq_true, Bool.and_eq_true] at ok
    obtain ⟨⟨f1, f2⟩, dd⟩ := ok
    obtain ⟨as, r1⟩ := BRep.reads I d x v hd rx
    obtain ⟨bs, r2⟩ := BRep.reads I e y u he ry
    refine SeqAt.compareNe_reads r1 r2 (canLay_toD d f1) (canLay_toD e f2) (by rw [dep_toD d f1, dep_toD e f2]; exact room_min hu (of_decide_eq_true dd)) ⟨.bl _, H, I, rfl, ?_⟩
    rw [← peq_eqv d e f1 f2]
    exact q
end
/-! ### in -/
section
variable {X : Cx} {pins : List (Addr × Obj)} {σ : L2.St} {H : Hp} {s : Shared} {W W' : AS}
theorem tup_lst_apart {a : Addr} {vs us : List V} (I : Inv X pins σ H s) (h : SqT X.K H a vs) (h' : SqL X.K H a us) : False := by
  obtain ⟨its, _, ⟨o, e, c, _⟩, _⟩ := I.tuple h
  obtain ⟨its', _, ⟨o', n', e', c', _⟩, _⟩ := I.list h'
  rw [e] at e'
  cases e'
  rw [c] at c'
  exact absurd c' (by decide)
theorem leaf_inj {v w : PV} {x : V} (hv : v.leaf = true) (h : Rep X.K W H v x) (h' : Rep X.K W' H w x) : v = w := by
  cases v <;> cases w <;> first
    | (exfalso; simp [PV.leaf] at hv; done)
    | exact rfl
    | (have e1 : x = _ := h
       have e2 : x = _ := h'
       rw [e1] at e2
       cases e2 <;> rfl)
    | (have e1 : x = _ := h
       obtain ⟨_, _, e2, _⟩ := h'
       rw [e1] at e2
       cases e2)
    | exact False.elim h'
mutual
/-- a value is one piece of data alone -/
theorem Rep.inj (I : Inv X pins σ H s) : ∀ (v w : PV) (x : V), Rep X.K W H v x → Rep X.K W' H w x → v = w
  | .non, w, x, h, h' => leaf_inj rfl h h'
  | .bl b, w, x, h, h' => leaf_inj rfl h h'
  | .int b, w, x, h, h' => leaf_inj rfl h h'
  | .str b, w, x, h, h' => leaf_inj rfl h h'
  | .tup xs, w, x, h, h' => by
    have h0 := h
    obtain ⟨a, vs, rfl, hs, ha⟩ := h
    cases w with
    | tup ys =>
      obtain ⟨a', vs', e, hs', ha'⟩ := h'
      cases e
      cases I.tuple_inj hs.sq hs'.sq
      rw [Rep.injs I xs ys vs ha ha']
    | lst ys =>
      obtain ⟨a', vs', e, hs', ha'⟩ := h'
      cases e
      exact (tup_lst_apart I hs.sq hs'.sq).elim
    | dct _ => exact False.elim h'
    | _ => exact (leaf_inj (by rfl) h' h0).symm
  | .lst xs, w, x, h, h' => by
    have h0 := h
    obtain ⟨a, vs, rfl, hs, ha⟩ := h
    cases w with
    | lst ys =>
      obtain ⟨a', vs', e, hs', ha'⟩ := h'
      cases e
      cases I.list_inj hs.sq hs'.sq
      rw [Rep.injs I xs ys vs ha ha']
    | tup ys =>
      obtain ⟨a', vs', e, hs', ha'⟩ := h'
      cases e
      exact (tup_lst_apart I hs'.sq hs.sq).elim
    | dct _ => exact False.elim h'
    | _ => exact (leaf_inj (by rfl) h' h0).symm
  | .dct _, _, _, h, _ => False.elim h
theorem Rep.injs (I : Inv X pins σ H s) : ∀ (xs ys : List PV) (vs : List V), Reps X.K W H xs vs → Reps X.K W' H ys vs → xs = ys
  | [], ys, vs, h, h' => by
    cases (show vs = [] from h)
    cases ys with
    | nil => rfl
    | cons _ _ => obtain ⟨_, _, e, _⟩ := h'; cases e
  | x :: xs, ys, vs, h, h' => by
    obtain ⟨v, r, rfl, h1, h2⟩ := h
    cases ys with
    | nil => cases (show v :: r = [] from h')
    | cons y ys =>
      obtain ⟨v', r', e, h1', h2'⟩ := h'
      cases e
      rw [Rep.inj I x y v h1 h1', Rep.injs I xs ys r h2 h2']
end
end
/-- == within an element's test -/
theorem eqAt_P {X : Cx} {pins : List (Addr × Obj)} {σ : L2.St} {H : Hp} {s : Shared} {W : AS} {v w : PV} {x y : V} {a b : Value} (I : Inv X pins σ H s) (hu : X.A.units + 64 < cLine) (hv : Rep X.K W H v x) (hw : BRep X.K W H w y) (ra : RelV x a) (rb : RelV y b)
    (ok : eqOk v w = true) : SeqAt.EqAt X.A.in1 s a b (peq v w) := by
  unfold eqOk at ok
  have hu1 : X.A.in1.units + 62 < cLine := by show X.A.units + 1 + 62 < cLine; omega
  by_cases hl : leaves v w = true
  · obtain ⟨_, h2⟩ := leaf_scal hv.b hw hl
    have fx : flatV x = true ∧ flatV y = true ∧ eqV x y = peq v w := by
      cases v <;> cases w <;> first
        | (exfalso; simp [leaves] at hl; done)
        | (have e1 : x = _ := hv
           have e2 : y = _ := hw
           subst e1
           subst e2
           simp [flatV, eqV, peq])
    rw [← fx.2.2]
    exact eqAt_V ra rb fx.1 fx.2.1
  · have hl' : leaves v w = false := by simpa using hl
    rw [hl', Bool.false_or, Bool.and_eq_true, Bool.and_eq_true] at ok
    obtain ⟨⟨f1, f2⟩, dd⟩ := ok
    obtain ⟨as, r1⟩ := Rep.reads I v x a hv ra
    obtain ⟨bs, r2⟩ := BRep.reads I w y b hw rb
    rw [peq_eqv v w f1 f2]
    refine SeqAt.eqAt_reads _ _ _ s a b as bs r1 r2 (canLay_toD v f1) (canLay_toD w f2) ?_
    rw [dep_toD v f1, dep_toD w f2]
    have := of_decide_eq_true dd
    omega
/-- which of the items is w -/
noncomputable def hitOf (ys : List PV) (its : List Value) (w : PV) (u : Value) : Bool := @decide (∃ (i : Nat) (y : PV), its[i]? = some u ∧ ys[i]? = some y ∧ peq y w = true) (Classical.propDecidable _)
section
variable {X : Cx} {pins : List (Addr × Obj)} {σ : L2.St} {H : Hp} {s : Shared} {W : AS}
theorem hit_at {ys : List PV} {vs : List V} {its : List Value} {w y : PV} {i : Nat} {u : Value} (I : Inv X pins σ H s) (hr : Reps X.K W H ys vs) (rv : Vals vs its) (hu : its[i]? = some u) (hy : ys[i]? = some y) : hitOf ys its w u = peq y w := by
  unfold hitOf
  cases q : peq y w with
  | true => exact @decide_eq_true _ (Classical.propDecidable _) ⟨i, y, hu, hy, q⟩
  | false =>
    refine @decide_eq_false _ (Classical.propDecidable _) fun ⟨j, z, h1, h2, h3⟩ => ?_
    obtain ⟨v1, e1, r1⟩ := hr.get hy
    obtain ⟨v2, e2, r2⟩ := hr.get h2
    obtain ⟨u1, g1, p1⟩ := rv.get e1
    obtain ⟨u2, g2, p2⟩ := rv.get e2
    rw [hu] at g1; cases g1
    rw [h1] at g2; cases g2
    cases p1.inj p2
    cases Rep.inj I y z v1 r1 r2
    rw [q] at h3
    cases h3
theorem any_hit {ys : List PV} {vs : List V} {its : List Value} {w : PV} (I : Inv X pins σ H s) (hr : Reps X.K W H ys vs) (rv : Vals vs its) : its.any (hitOf ys its w) = ys.any fun y => peq y w := by
  have l1 := hr.length
  have l2 := rv.length
  rw [Bool.eq_iff_iff, List.any_eq_true, List.any_eq_true]
  constructor
  · rintro ⟨u, hu, q⟩
    obtain ⟨i, hi, e⟩ := List.getElem_of_mem hu
    have hy : i < ys.length := by omega
    rw [hit_at I hr rv (i := i) (by rw [List.getElem?_eq_getElem hi, e]) (List.getElem?_eq_getElem hy)] at q
    exact ⟨_, List.getElem_mem hy, q⟩
  · rintro ⟨y, hy, q⟩
    obtain ⟨i, hi, e⟩ := List.getElem_of_mem hy
    have hu : i < its.length := by omega
    refine ⟨_, List.getElem_mem hu, ?_⟩
    rw [hit_at I hr rv (i := i) (List.getElem?_eq_getElem hu) (by rw [List.getElem?_eq_getElem hi, e])]
    exact q
end
section
variable {X : Cx}
def rInP (K : PySem.W.Frag) (neg : Bool) : R2 := fun x y H Q => ∃ W p vs ys w, y = .ref p ∧ (SqL K H p vs ∨ SqT K H p vs) ∧ Reps K W H ys vs ∧ BRep K W H w x ∧ (ys.all fun y => eqOk y w) = true ∧ Q (.bl (if neg then !ys.any fun y => peq y w else ys.any fun y => peq y w)) H
theorem inP_hits {pins : List (Addr × Obj)} {σ : L2.St} {H : Hp} {s : Shared} {W : AS} {ys : List PV} {vs : List V} {its : List Value} {w : PV} {x : V} {v : Value} (I : Inv X pins σ H s) (hu : X.A.units + 64 < cLine) (hr : Reps X.K W H ys vs) (rv : Vals vs its) (hw : BRep X.K W H w x) (rx : RelV x v)
    (ok : (ys.all fun y => eqOk y w) = true) : ∀ u, u ∈ its.toArray → SeqAt.EqAt X.A.in1 s u v (hitOf ys its w u) := fun u hmem => by
  have hmem : u ∈ its := by simpa using hmem
  obtain ⟨i, hi, e⟩ := List.getElem_of_mem hmem
  have l1 := hr.length
  have l2 := rv.length
  have hy : i < ys.length := by omega
  have g : its[i]? = some u := by rw [List.getElem?_eq_getElem hi, e]
  rw [hit_at I hr rv g (List.getElem?_eq_getElem hy)]
  obtain ⟨z, e1, r1⟩ := hr.get (List.getElem?_eq_getElem hy)
  obtain ⟨u1, g1, p1⟩ := rv.get e1
  rw [g] at g1
  cases g1
  exact eqAt_P I hu r1 hw p1 rx (List.all_eq_true.mp ok _ (List.getElem_mem hy))
theorem op_inP (hu : X.A.units + 64 < cLine) : OpR X (compareOp .In) (rInP X.K false) := by
  intro pins s σ H x y v u Q I rx ry h
  obtain ⟨W, p, vs, ys, w, rfl, hq, hr, hw, ok, q⟩ := h
  cases ry
  rcases hq with hq | hq
  · obtain ⟨its, rv, pl, hz⟩ := I.list hq
    refine SeqAt.in_listAt (hitOf ys its w) pl.isList (inP_hits I hu hr rv hw rx ok) ⟨.bl _, H, I, rfl, ?_⟩
    rw [show its.toArray.any (hitOf ys its w) = its.any (hitOf ys its w) by simp, any_hit I hr rv]
    exact q
  · obtain ⟨its, rv, pl, hz⟩ := I.tuple hq
    refine SeqAt.in_tupleAt (hitOf ys its w) pl (inP_hits I hu hr rv hw rx ok) ⟨.bl _, H, I, rfl, ?_⟩
    rw [show its.toArray.any (hitOf ys its w) = its.any (hitOf ys its w) by simp, any_hit I hr rv]
    exact q
theorem op_notInP (hu : X.A.units + 64 < cLine) : OpR X (compareOp .NotIn) (rInP X.K true) := by
  intro pins s σ H x y v u Q I rx ry h
  obtain ⟨W, p, vs, ys, w, rfl, hq, hr, hw, ok, q⟩ := h
  cases ry
  rcases hq with hq | hq
  · obtain ⟨its, rv, pl, hz⟩ := I.list hq
    refine SeqAt.notIn_listAt (hitOf ys its w) pl.isList (inP_hits I hu hr rv hw rx ok) ⟨.bl _, H, I, rfl, ?_⟩
    rw [show its.toArray.any (hitOf ys its w) = its.any (hitOf ys its w) by simp, any_hit I hr rv]
    exact q
  · obtain ⟨its, rv, pl, hz⟩ := I.tuple hq
    refine SeqAt.notIn_tupleAt (hitOf ys its w) pl (inP_hits I hu hr rv hw rx ok) ⟨.bl _, H, I, rfl, ?_⟩
    rw [show its.toArray.any (hitOf ys its w) = its.any (hitOf ys its w) by simp, any_hit I hr rv]
    exact q
end
end EV
set_option Elab.async false
set_option linter.all false
set_option maxRecDepth 100000
namespace EV
open PySem PySem.Spec PyProof.Rows L2

/-- the reading of an evaluation -/
def tR (K : PySem.W.Frag) (g : Env → Option (RV × Env)) : TE := fun σ H Q => ∃ Z pn ρ r ρ', SR K Z pn σ H ρ ∧ g ρ = some (r, ρ') ∧ ∀ x H', PostE K Z pn σ H ρ r ρ' x H' → Q x H'
def BwAt (K : PySem.W.Frag) (W : AS) (σ : L2.St) (H : Hp) (b : Bw) (x : V) : Prop :=
  match b with
  | .slot i => σ[i]? = some (some x)
  | .val v => Rep K W H v x
def tB (K : PySem.W.Frag) (g : Env → Option (Bw × Env)) : TE := fun σ H Q => ∃ Z pn ρ b ρ', SR K Z pn σ H ρ ∧ g ρ = some (b, ρ') ∧
  ∀ x H', SR K Z pn σ H' ρ' → Stp Z (Wof Z σ ρ) (Wof Z σ ρ') H H' → BwAt K (Wof Z σ ρ') σ H' b x → Q x H'
def BwsAt (K : PySem.W.Frag) (W : AS) (σ : L2.St) (H : Hp) : List Bw → List V → Prop
  | [], xs => xs = []
  | b :: bs, xs => ∃ x r, xs = x :: r ∧ BwAt K W σ H b x ∧ BwsAt K W σ H bs r
def tAs (K : PySem.W.Frag) (g : Env → Option (List Bw × Env)) : TA := fun σ H Q => ∃ Z pn ρ bs ρ', SR K Z pn σ H ρ ∧ g ρ = some (bs, ρ') ∧
  ∀ xs H', SR K Z pn σ H' ρ' → Stp Z (Wof Z σ ρ) (Wof Z σ ρ') H H' → BwsAt K (Wof Z σ ρ') σ H' bs xs → Q xs H'
def tT (K : PySem.W.Frag) (g : Env → Option (Bool × Env)) : TT := fun σ H Q => ∃ Z pn ρ b ρ', SR K Z pn σ H ρ ∧ g ρ = some (b, ρ') ∧
  ∀ H', SR K Z pn σ H' ρ' → Stp Z (Wof Z σ ρ) (Wof Z σ ρ') H H' → Q b H'
section
variable {K : PySem.W.Frag} {Z : AS} {pn : Nat → Option Addr} {σ : L2.St} {H H' : Hp} {ρ ρ' : Env} {W W' : AS}
theorem BwAt.ext {b : Bw} {x : V} (e : Ext W W' H H') (h : BwAt K W σ H b x) : BwAt K W' σ H' b x := by
  cases b with
  | slot i => exact h
  | val v => exact Rep.ext e h
theorem BwsAt.ext (e : Ext W W' H H') : ∀ {bs : List Bw} {xs : List V}, BwsAt K W σ H bs xs → BwsAt K W' σ H' bs xs
  | [], _, h => h
  | b :: bs, _, h => by
    obtain ⟨x, r, e1, h1, h2⟩ := h
    exact ⟨x, r, e1, h1.ext e, BwsAt.ext e h2⟩
theorem BwsAt.app : ∀ {bs cs : List Bw} {xs ys : List V}, BwsAt K W σ H bs xs → BwsAt K W σ H cs ys → BwsAt K W σ H (bs ++ cs) (xs ++ ys)
  | [], _, _, _, h, h' => by rw [show _ = [] from h]; exact h'
  | b :: bs, _, _, _, h, h' => by
    obtain ⟨x, r, e1, h1, h2⟩ := h
    subst e1
    exact ⟨x, r ++ _, rfl, h1, BwsAt.app h2 h'⟩
theorem BwsAt.of_reps : ∀ {vs : List PV} {xs : List V}, Reps K W H vs xs → BwsAt K W σ H (vs.map .val) xs
  | [], _, h => h
  | v :: vs, _, h => by
    obtain ⟨x, r, e1, h1, h2⟩ := h
    exact ⟨x, r, e1, h1, BwsAt.of_reps h2⟩
theorem BwsAt.reps : ∀ {bs : List Bw} {vs : List PV} {xs : List V}, BwsAt K W σ H bs xs → vals? bs = some vs → Reps K W H vs xs
  | [], vs, _, h, e => by
    cases (show [] = vs from Option.some.inj e)
    exact h
  | .val v :: bs, vs, _, h, e => by
    obtain ⟨x, r, e1, h1, h2⟩ := h
    obtain ⟨ws, q, e2⟩ := Option.map_eq_some_iff.mp (show (vals? bs).map (v :: ·) = some vs from e)
    subst e2
    exact ⟨x, r, e1, h1, BwsAt.reps h2 q⟩
  | .slot i :: bs, vs, _, h, e => by cases e
theorem BwsAt.length : ∀ {bs : List Bw} {xs : List V}, BwsAt K W σ H bs xs → xs.length = bs.length
  | [], _, h => by rw [show _ = [] from h]; rfl
  | b :: bs, _, h => by
    obtain ⟨x, r, e1, h1, h2⟩ := h
    rw [e1, List.length_cons, List.length_cons, BwsAt.length h2]
theorem deref_ok {b : Bw} {x : V} {v : PV} (s : SR K Z pn σ H ρ) (h : BwAt K (Wof Z σ ρ) σ H b x) (e : deref b ρ = some v) : BRep K (Wof Z σ ρ) H v x := by
  cases b with
  | slot i =>
    obtain ⟨y, e1, r⟩ := s.peek (v := v) e
    rw [show σ[i]? = some (some x) from h] at e1
    cases e1
    exact r
  | val w =>
    cases (show some w = some v from e)
    exact Rep.b h
def BReps (K : PySem.W.Frag) (W : AS) (H : Hp) : List PV → List V → Prop
  | [], xs => xs = []
  | v :: vs, xs => ∃ x r, xs = x :: r ∧ BRep K W H v x ∧ BReps K W H vs r
theorem derefs_ok (s : SR K Z pn σ H ρ) : ∀ {bs : List Bw} {xs : List V} {vs : List PV}, BwsAt K (Wof Z σ ρ) σ H bs xs → derefs bs ρ = some vs → BReps K (Wof Z σ ρ) H vs xs
  | [], _, vs, h, e => by
    cases (show [] = vs from Option.some.inj e)
    exact h
  | b :: bs, _, vs, h, e => by
    obtain ⟨x, r, e1, h1, h2⟩ := h
    obtain ⟨v, q1, e2⟩ := Option.bind_eq_some_iff.mp (show (deref b ρ).bind _ = some vs from e)
    obtain ⟨ws, q2, e3⟩ := Option.map_eq_some_iff.mp e2
    subst e3
    exact ⟨x, r, e1, deref_ok s h1 q1, derefs_ok s h2 q2⟩
end
section
variable {X : Cx} {e : Expr}
theorem pe_imp {t t' : TE} (h : PE X e t) (q : ∀ σ H Q, t' σ H Q → t σ H Q) : PE X e t' := ⟨fun pins s σ H Q I hw => h.run pins s σ H Q I (q σ H Q hw)⟩
theorem pt_imp {t t' : TT} (h : PT X e t) (q : ∀ σ H Q, t' σ H Q → t σ H Q) : PT X e t' := ⟨fun pins s σ H Q I hw => h.run pins s σ H Q I (q σ H Q hw)⟩
theorem pa_imp {es : List Expr} {t t' : TA} (h : PA X es t) (q : ∀ σ H Q, t' σ H Q → t σ H Q) : PA X es t' := ⟨fun pos pins s σ H Q I hw => h.run pos pins s σ H Q I (q σ H Q hw)⟩
/-- an operand that is only looked at -/
theorem pe_bw {c : Ex} {g : Env → Option (RV × Env)} (h : PE X e (tR X.K g)) (hv : ∀ i, c = .var i → PE X e (tVar i)) : PE X e (tB X.K fun ρ => bw c (g ρ) ρ) := by
  have other : (∀ i, c ≠ .var i) → PE X e (tB X.K fun ρ => bw c (g ρ) ρ) := fun hc => by
    refine pe_imp h fun σ H Q ⟨Z, pn, ρ, b, ρ', s, e1, q⟩ => ?_
    have e2 : bw c (g ρ) ρ = (g ρ).map fun p => (.val p.1.val, p.2) := by
      cases c <;> first | rfl | exact absurd rfl (hc _)
    have e1 : bw c (g ρ) ρ = some (b, ρ') := e1
    rw [e2] at e1
    obtain ⟨⟨r, ρ2⟩, g1, g2⟩ := Option.map_eq_some_iff.mp e1
    cases g2
    refine ⟨Z, pn, ρ, r, _, s, g1, fun x H' p => ?_⟩
    obtain ⟨s2, ex, rp⟩ := p.freeze
    exact q x H' s2 ex rp
  cases c with
  | var i =>
    refine pe_imp (hv i rfl) fun σ H Q ⟨Z, pn, ρ, b, ρ', s, e1, q⟩ => ?_
    obtain ⟨v, g1, g2⟩ := Option.map_eq_some_iff.mp (show (peek i ρ).map (fun _ => (Bw.slot i, ρ)) = some (b, ρ') from e1)
    cases g2
    obtain ⟨x, e2, _⟩ := s.peek g1
    exact ⟨x, e2, q x H s Stp.refl e2⟩
  | _ => exact other fun i z => nomatch z
end

/-! ### operations on two operands -/
/-- an operation on two values does what f says -/
def OpOk (K : PySem.W.Frag) (r : R2) (f : PV → PV → Option RV) : Prop := ∀ Z pn σ H ρ x y v w res Q, SR K Z pn σ H ρ → BRep K (Wof Z σ ρ) H v x → BRep K (Wof Z σ ρ) H w y → f v w = some res →
  (∀ z H', PostE K Z pn σ H ρ res ρ z H' → Q z H') → r x y H Q
/-- two operands, then an operation -/
def two (ga gb : Env → Option (Bw × Env)) (f : PV → PV → Option RV) : Env → Option (RV × Env) := fun ρ => (ga ρ).bind fun p => (gb p.2).bind fun q => (deref p.1 q.2).bind fun x => (deref q.1 q.2).bind fun y => (f x y).map fun r => (r, q.2)
theorem two_rd {K : PySem.W.Frag} {r : R2} {f : PV → PV → Option RV} {ga gb : Env → Option (Bw × Env)} (ok : OpOk K r f) (σ : L2.St) (H : Hp) (Q : VK) (h : tR K (two ga gb f) σ H Q) : tOp r (tB K ga) (tB K gb) σ H Q := by
  obtain ⟨Z, pn, ρ, res, ρ', s, e, q⟩ := h
  obtain ⟨⟨b1, ρ1⟩, g1, e⟩ := Option.bind_eq_some_iff.mp e
  obtain ⟨⟨b2, ρ2⟩, g2, e⟩ := Option.bind_eq_some_iff.mp e
  obtain ⟨v, d1, e⟩ := Option.bind_eq_some_iff.mp e
  obtain ⟨w, d2, e⟩ := Option.bind_eq_some_iff.mp e
  obtain ⟨r', fe, e⟩ := Option.map_eq_some_iff.mp e
  cases e
  refine ⟨Z, pn, ρ, b1, ρ1, s, g1, fun x H1 s1 e1 at1 => ⟨Z, pn, ρ1, b2, ρ2, s1, g2, fun y H2 s2 e2 at2 => ?_⟩⟩
  exact ok Z pn σ H2 ρ2 x y v w res Q s2 (deref_ok s2 (at1.ext e2.ext) d1) (deref_ok s2 at2 d2) fe fun z H' p => q z H' (p.pre (e1.trans e2))
section
variable {K : PySem.W.Frag} {Z : AS} {pn : Nat → Option Addr} {σ : L2.St} {H H' : Hp} {ρ ρ' : Env} {W W' : AS} {x y : V}
theorem BRep.int {v : PV} {i : Int} (h : BRep K W H (.int i) x) : x = .int i := h
theorem post_int {i : Int} (s : SR K Z pn σ H ρ) : PostE K Z pn σ H ρ (.fz (.int i)) ρ (.int i) H := PostE.val s rfl
theorem post_bl {b : Bool} (s : SR K Z pn σ H ρ) : PostE K Z pn σ H ρ (.fz (.bl b)) ρ (.bl b) H := PostE.val s rfl
theorem post_tup_at {a : Addr} {vs : List V} {xs : List PV} (s : SR K Z pn σ H ρ) (h : SqTW K (Wof Z σ ρ) H a vs) (r : Reps K (Wof Z σ ρ) H xs vs) : PostE K Z pn σ H ρ (.fz (.tup xs)) ρ (.ref a) H := PostE.val s ⟨a, vs, rfl, h, r⟩
end
end EV
set_option Elab.async false
set_option linter.all false
set_option maxRecDepth 100000
namespace EV
open PySem PySem.Spec PyProof.Rows L2
section
variable {K : PySem.W.Frag} {W : AS} {H : Hp} {x y : V} {xs : List PV}
theorem nil_iff {vs : List V} (r : Reps K W H xs vs) : vs = [] ↔ xs = [] := by
  have := r.length
  cases vs <;> cases xs <;> simp at this ⊢
end
def rAddA (K : PySem.W.Frag) : R2 := fun x y H Q => rI0 (fun i j => .int (i + j)) x y H Q ∨ rCatA K x y H Q ∨ rCatL K x y H Q
theorem opr_add {X : Cx} : OpR X (binaryOp .Add) (rAddA X.K) := op_add.or (op_catA.or op_catL)
theorem ok_add {K : PySem.W.Frag} : OpOk K (rAddA K) (binOp .add) := by
  intro Z pn σ H ρ x y v w res Q s hv hw e q
  cases v with
  | int i =>
    cases w with
    | int j =>
      cases e
      exact .inl ⟨i, j, hv, hw, q _ _ (post_int s)⟩
    | _ => simp [binOp] at e
  | tup xs =>
    cases w with
    | tup ys =>
      obtain ⟨a, vs, rfl, h1, h2⟩ := hv
      obtain ⟨b, us, rfl, h3, h4⟩ := hw
      have e : (if xs.length + ys.length ≤ LIM then some (RV.fz (.tup (xs ++ ys))) else none) = some res := e
      split at e
      · rename_i hz
        cases e
        refine .inr (.inl ⟨a, b, vs, us, rfl, rfl, h1.sq, h3.sq, by rw [h2.length, h4.length, ← LIM_eq]; exact hz, fun n => ?_, fun n m => ?_, fun n m p hp => ?_⟩)
        · have n' := (nil_iff h2).mp n
          subst n'
          exact q _ _ (post_tup_at s h3 h4)
        · have m' := (nil_iff h4).mp m
          subst m'
          rw [List.append_nil] at q
          exact q _ _ (post_tup_at s h1 h2)
        · exact q _ _ (PostE.tup s (h2.app h4) hp)
      · cases e
    | _ => simp [binOp] at e
  | lst xs =>
    cases w with
    | lst ys =>
      obtain ⟨a, vs, rfl, h1, h2⟩ := hv
      obtain ⟨b, us, rfl, h3, h4⟩ := hw
      have e : (if xs.length + ys.length ≤ LIM then some (RV.fr (.lst (xs ++ ys))) else none) = some res := e
      split at e
      · rename_i hz
        cases e
        exact .inr (.inr ⟨a, b, vs, us, rfl, rfl, h1, h3, by rw [h2.length, h4.length, ← LIM_eq]; exact hz, fun p hp => q _ _ (PostE.lst s (h2.app h4) hp)⟩)
      · cases e
    | _ => simp [binOp] at e
  | _ => simp [binOp] at e
theorem ok_sub {K : PySem.W.Frag} : OpOk K (rI0 fun i j => .int (i - j)) (binOp .sub) := by
  intro Z pn σ H ρ x y v w res Q s hv hw e q
  cases v with
  | int i =>
    cases w with
    | int j =>
      cases e
      exact ⟨i, j, hv, hw, q _ _ (post_int s)⟩
    | _ => simp [binOp] at e
  | _ => simp [binOp] at e
theorem ok_mul {K : PySem.W.Frag} : OpOk K (rI CMul fun i j => .int (i * j)) (binOp .mul) := by
  intro Z pn σ H ρ x y v w res Q s hv hw e q
  cases v with
  | int i =>
    cases w with
    | int j =>
      have e : (if (-(2 ^ 64) < i ∧ i < 2 ^ 64) ∨ (-(2 ^ 64) < j ∧ j < 2 ^ 64) then some (RV.fz (.int (i * j))) else none) = some res := e
      split at e
      · rename_i hz
        cases e
        exact ⟨i, j, hv, hw, hz, q _ _ (post_int s)⟩
      · cases e
    | _ => simp [binOp] at e
  | _ => simp [binOp] at e
theorem ok_mod {K : PySem.W.Frag} : OpOk K (rI (fun _ j => 0 < j) fun i j => .int (i % j)) (binOp .mod) := by
  intro Z pn σ H ρ x y v w res Q s hv hw e q
  cases v with
  | int i =>
    cases w with
    | int j =>
      have e : (if 0 < j then some (RV.fz (.int (i % j))) else none) = some res := e
      split at e
      · rename_i hz
        cases e
        exact ⟨i, j, hv, hw, hz, q _ _ (post_int s)⟩
      · cases e
    | _ => simp [binOp] at e
  | _ => simp [binOp] at e
theorem ok_fdiv {K : PySem.W.Frag} : OpOk K (rI CDivW fun i j => .int (i / j)) (binOp .fdiv) := by
  intro Z pn σ H ρ x y v w res Q s hv hw e q
  cases v with
  | int i =>
    cases w with
    | int j =>
      have e : (if 0 < j ∧ j < 2 ^ 64 then some (RV.fz (.int (i / j))) else none) = some res := e
      split at e
      · rename_i hz
        cases e
        refine ⟨i, j, hv, hw, wide_div (b := 64) hz.1 ?_ (by decide) (by decide), q _ _ (post_int s)⟩
        have := hz.1
        have := hz.2
        omega
      · cases e
    | _ => simp [binOp] at e
  | _ => simp [binOp] at e
theorem ok_pow {K : PySem.W.Frag} : OpOk K (rI CPowW fun i j => .int (i ^ j.toNat)) (binOp .pow) := by
  intro Z pn σ H ρ x y v w res Q s hv hw e q
  cases v with
  | int i =>
    cases w with
    | int j =>
      have e : (if 0 ≤ j ∧ j ≤ 1000 ∧ i.natAbs < 2 ^ 1024 then some (RV.fz (.int (i ^ j.toNat))) else none) = some res := e
      split at e
      · rename_i hz
        cases e
        exact ⟨i, j, hv, hw, hz, q _ _ (post_int s)⟩
      · cases e
    | _ => simp [binOp] at e
  | _ => simp [binOp] at e
/-! ### comparisons -/
def cmpF (op : COp) (x y : PV) : Option RV := (cmpOp op x y).map fun r => .fz (.bl r)
theorem ok_eq {K : PySem.W.Frag} : OpOk K (rEqP K false) (cmpF .eq) := by
  intro Z pn σ H ρ x y v w res Q s hv hw e q
  obtain ⟨b, e1, e2⟩ := Option.map_eq_some_iff.mp e
  subst e2
  have e1 : (if eqOk v w then some (peq v w) else none) = some b := e1
  split at e1
  · rename_i ok
    cases e1
    exact ⟨_, v, w, hv, hw, ok, q _ _ (post_bl s)⟩
  · cases e1
theorem ok_ne {K : PySem.W.Frag} : OpOk K (rEqP K true) (cmpF .ne) := by
  intro Z pn σ H ρ x y v w res Q s hv hw e q
  obtain ⟨b, e1, e2⟩ := Option.map_eq_some_iff.mp e
  subst e2
  have e1 : (if eqOk v w then some (!peq v w) else none) = some b := e1
  split at e1
  · rename_i ok
    cases e1
    exact ⟨_, v, w, hv, hw, ok, q _ _ (post_bl s)⟩
  · cases e1
theorem ok_ord {K : PySem.W.Frag} {op : COp} {g : Int → Int → Bool} (hg : ∀ v w b, cmpOp op v w = some b → ∃ i j, v = .int i ∧ w = .int j ∧ b = g i j) : OpOk K (rI0 fun i j => .bl (g i j)) (cmpF op) := by
  intro Z pn σ H ρ x y v w res Q s hv hw e q
  obtain ⟨b, e1, e2⟩ := Option.map_eq_some_iff.mp e
  obtain ⟨i, j, rfl, rfl, rfl⟩ := hg v w b e1
  subst e2
  exact ⟨i, j, hv, hw, q _ _ (post_bl s)⟩
theorem ok_lt {K : PySem.W.Frag} : OpOk K (rI0 fun i j => .bl (decide (i < j))) (cmpF .lt) := ok_ord fun v w b e => by
  cases v <;> cases w <;> first | (simp [cmpOp, ords] at e; done) | exact ⟨_, _, rfl, rfl, (Option.some.inj e).symm⟩
theorem ok_le {K : PySem.W.Frag} : OpOk K (rI0 fun i j => .bl (decide (i ≤ j))) (cmpF .le) := ok_ord fun v w b e => by
  cases v <;> cases w <;> first | (simp [cmpOp, ords] at e; done) | exact ⟨_, _, rfl, rfl, (Option.some.inj e).symm⟩
theorem ok_gt {K : PySem.W.Frag} : OpOk K (rI0 fun i j => .bl (decide (j < i))) (cmpF .gt) := ok_ord fun v w b e => by
  cases v <;> cases w <;> first | (simp [cmpOp, ords] at e; done) | exact ⟨_, _, rfl, rfl, (Option.some.inj e).symm⟩
theorem ok_ge {K : PySem.W.Frag} : OpOk K (rI0 fun i j => .bl (decide (j ≤ i))) (cmpF .ge) := ok_ord fun v w b e => by
  cases v <;> cases w <;> first | (simp [cmpOp, ords] at e; done) | exact ⟨_, _, rfl, rfl, (Option.some.inj e).symm⟩
theorem brep_non {K : PySem.W.Frag} {W : AS} {H : Hp} {v : PV} {x : V} (h : BRep K W H v x) : decide (x = .non) = isNon v := by
  cases v with
  | non => rw [show x = .non from h]; rfl
  | bl b => rw [show x = _ from h]; rfl
  | int b => rw [show x = _ from h]; rfl
  | str b => rw [show x = _ from h]; rfl
  | tup xs => obtain ⟨a, vs, rfl, _⟩ := h; rfl
  | lst xs => obtain ⟨a, vs, rfl, _⟩ := h; rfl
  | dct _ => exact h.elim
theorem ok_isN {K : PySem.W.Frag} {neg : Bool} {r : R2} (hr : ∀ v x H Q, decide (x = V.non) = isNon v → Q (V.bl (if neg then !isNon v else isNon v)) H → r x .non H Q) : OpOk K r (fun x y => (isIt neg x y).map fun b => .fz (.bl b)) := by
  intro Z pn σ H ρ x y v w res Q s hv hw e q
  obtain ⟨b, e1, e2⟩ := Option.map_eq_some_iff.mp e
  subst e2
  cases w with
  | non =>
    cases (show y = .non from hw)
    cases (show (if neg then !isNon v else isNon v) = b from Option.some.inj e1)
    exact hr v x H Q (brep_non hv) (q _ _ (post_bl s))
  | _ => simp [isIt] at e1
theorem ok_is {K : PySem.W.Frag} : OpOk K (fun x y H Q => y = .non ∧ Q (.bl (decide (x = .non))) H) (cmpF .is) := ok_isN (neg := false) fun v x H Q e q => ⟨rfl, by rw [e]; exact q⟩
theorem ok_isnot {K : PySem.W.Frag} : OpOk K (fun x y H Q => y = .non ∧ Q (.bl (!decide (x = .non))) H) (cmpF .isnot) := ok_isN (neg := true) fun v x H Q e q => ⟨rfl, by rw [e]; exact q⟩
theorem ok_within {K : PySem.W.Frag} {neg : Bool} : OpOk K (rInP K neg) (fun x y => (within neg x y).map fun b => .fz (.bl b)) := by
  intro Z pn σ H ρ x y v w res Q s hv hw e q
  obtain ⟨b, e1, e2⟩ := Option.map_eq_some_iff.mp e
  subst e2
  cases w with
  | tup ys =>
    obtain ⟨a, vs, rfl, h1, h2⟩ := hw
    have e1 : (if (ys.all fun y => eqOk y v) = true then some (if neg then !ys.any fun y => peq y v else ys.any fun y => peq y v) else none) = some b := e1
    split at e1
    · rename_i ok
      cases e1
      exact ⟨_, a, vs, ys, v, rfl, .inr h1.sq, h2, hv, ok, q _ _ (post_bl s)⟩
    · cases e1
  | lst ys =>
    obtain ⟨a, vs, rfl, h1, h2⟩ := hw
    have e1 : (if (ys.all fun y => eqOk y v) = true then some (if neg then !ys.any fun y => peq y v else ys.any fun y => peq y v) else none) = some b := e1
    split at e1
    · rename_i ok
      cases e1
      exact ⟨_, a, vs, ys, v, rfl, .inl h1, h2, hv, ok, q _ _ (post_bl s)⟩
    · cases e1
  | _ => simp [within] at e1
theorem ok_in {K : PySem.W.Frag} : OpOk K (rInP K false) (cmpF .isin) := ok_within
theorem ok_notin {K : PySem.W.Frag} : OpOk K (rInP K true) (cmpF .notin) := ok_within
/-- the library's operator -/
def BOp.op : BOp → Operator
  | .add => .Add | .sub => .Sub | .mul => .Mult | .mod => .Mod | .fdiv => .FloorDiv | .pow => .Pow
def COp.op : COp → CmpOp
  | .eq => .Eq | .ne => .NotEq | .lt => .Lt | .le => .LtE | .gt => .Gt | .ge => .GtE | .is => .Is | .isnot => .IsNot | .isin => .In | .notin => .NotIn
theorem bin_any {X : Cx} (op : BOp) : ∃ r, OpR X (binaryOp op.op) r ∧ OpOk X.K r (binOp op) := by
  cases op with
  | add => exact ⟨_, opr_add, ok_add⟩
  | sub => exact ⟨_, op_sub, ok_sub⟩
  | mul => exact ⟨_, op_mul, ok_mul⟩
  | mod => exact ⟨_, op_mod, ok_mod⟩
  | fdiv => exact ⟨_, op_fdivW, ok_fdiv⟩
  | pow => exact ⟨_, op_powW, ok_pow⟩
theorem cmp_any {X : Cx} (hu : X.A.units + 64 < cLine) (op : COp) : ∃ r, OpR X (compareOp op.op) r ∧ OpOk X.K r (cmpF op) := by
  cases op with
  | eq => exact ⟨_, op_eqP hu, ok_eq⟩
  | ne => exact ⟨_, op_neP hu, ok_ne⟩
  | lt => exact ⟨_, op_lt, ok_lt⟩
  | le => exact ⟨_, op_le, ok_le⟩
  | gt => exact ⟨_, op_gt, ok_gt⟩
  | ge => exact ⟨_, op_ge, ok_ge⟩
  | is => exact ⟨_, op_isN, ok_is⟩
  | isnot => exact ⟨_, op_notN, ok_isnot⟩
  | isin => exact ⟨_, op_inP hu, ok_in⟩
  | notin => exact ⟨_, op_notInP hu, ok_notin⟩
end EV
set_option Elab.async false
set_option linter.all false
set_option maxRecDepth 100000
namespace EV
open PySem PySem.Spec PyProof.Rows L2
section
variable {prog : Program} {w : World} {A : Around} {E : Value → Shared → Prop} {s : Shared}
theorem sum_intTup {l : Addr} {xs : Array (Int × Tok)} {Q : Value → Shared → Prop} (hh : A.handled = none) (hl : s.heap.IsTuple l (intItems xs))
    (h : ∀ h' tk t', (∀ b o, s.heap.get? b = some o → h'.get? b = some o) → Q (.int (preSum (numAt xs) xs.size) t') { s with heap := h', toks := tk }) :
    wpAny (model prog w) A (call (.builtin "sum") [.ref l]) Q E s := by
  have hlt : l < s.heap.objs.size := by obtain ⟨_, e, _⟩ := hl; exact Heap.lt_size e
  refine call_sum_walkG (wpAny_pyIter_tuple hl ?_)
  have hne : l ≠ s.heap.objs.size := Nat.ne_of_lt hlt
  refine ⟨_, _, _, _, _, _, numAt xs, rfl, Walks.tuple (A := A.in1) hh s.heap.objs.size l hne (intItems xs), ⟨⟨_, Heap.get?_push_size _ rfl, rfl, rfl⟩, ?_⟩, fun b hb => ?_, (fun _ _ => intItems_at), fun h' tk t' hk => ?_⟩
  · exact Heap.IsTuple.at hl fun o e => Heap.get?_push_of_some _ e
  · show b < (s.heap.push _).objs.size
    rw [Heap.size_push]
    rcases List.mem_cons.mp hb with rfl | hb
    · exact Nat.lt_succ_self _
    · rcases List.mem_cons.mp hb with rfl | hb
      · exact Nat.lt_succ_of_lt hlt
      · cases hb
  · have := h h' tk t' fun b o e => hk b o (fun hm => by
      rcases List.mem_cons.mp hm with rfl | hm
      · exact absurd (Heap.lt_size e) (Nat.lt_irrefl _)
      · cases hm) (Heap.get?_push_of_some _ e)
    simpa [intItems] using this
theorem sum_tup_raw {l : Addr} {its : List Value} {ns : List Int} {Q : Value → Shared → Prop} (hh : A.handled = none) (hl : s.heap.IsTuple l its.toArray) (hi : IntsAre its ns)
    (h : ∀ h' tk t', (∀ b o, s.heap.get? b = some o → h'.get? b = some o) → Q (.int ns.sum t') { s with heap := h', toks := tk }) : wpAny (model prog w) A (call (.builtin "sum") [.ref l]) Q E s := by
  obtain ⟨xs, e⟩ := hi.allInts.items
  have hn : numsOf (intItems xs).toList = ns := by rw [← e]; exact hi.numsOf
  rw [nums_intItems] at hn
  rw [e] at hl
  refine sum_intTup hh hl fun h' tk t' hk => ?_
  have := h h' tk t' hk
  rw [preSum_eq, List.take_of_length_le (by simp), hn]; exact this
end
section
variable {X : Cx}
def rSumT (K : PySem.W.Frag) : List V → Hp → VK → Prop := fun vs H Q => ∃ (a : Addr) (ns : List Int), vs = [V.ref a] ∧ SqT K H a (ns.map V.int) ∧ Q (.int ns.sum) H
theorem cr_sumT (hc : X.calm = true) : CallR X (.builtin "sum") (rSumT X.K) := by
  intro pins s σ H vs us Q I r h
  obtain ⟨a, ns, rfl, hs, q⟩ := h
  obtain ⟨its, rv, hl, _⟩ := I.tuple hs
  rw [Vals.ref1 r]
  exact sum_tup_raw (I.ok.hd hc) (show s.heap.IsTuple a its.toArray from hl) rv.ints fun h' tk t' hk => ⟨.int _, H, I.kept hk, ⟨_, rfl⟩, q⟩
/-- two rules for one call -/
theorem CallR.or {f : Value} {r r' : List V → Hp → VK → Prop} (h : CallR X f r) (h' : CallR X f r') : CallR X f fun xs H Q => r xs H Q ∨ r' xs H Q := fun pins s σ H xs us Q I rv q => by
  rcases q with q | q
  · exact h pins s σ H xs us Q I rv q
  · exact h' pins s σ H xs us Q I rv q
end
/-- a built-in does what bias says -/
def CallOk (K : PySem.W.Frag) (r : List V → Hp → VK → Prop) (b : Bi) : Prop := ∀ Z pn σ H ρ vs xs res Q, SR K Z pn σ H ρ → BReps K (Wof Z σ ρ) H vs xs → bias b vs = some res →
  (∀ z H', PostE K Z pn σ H ρ res ρ z H' → Q z H') → r xs H Q
theorem ints_of {K : PySem.W.Frag} {W : AS} {H : Hp} : ∀ {xs : List PV} {vs : List V} {is : List Int}, Reps K W H xs vs → ints? xs = some is → vs = is.map V.int
  | [], _, is, h, e => by
    cases (show [] = is from Option.some.inj e)
    exact h
  | .int i :: xs, _, is, h, e => by
    obtain ⟨v, r, e1, h1, h2⟩ := h
    obtain ⟨js, q, e2⟩ := Option.map_eq_some_iff.mp (show (ints? xs).map (i :: ·) = some is from e)
    subst e2
    rw [e1, show v = .int i from h1, ints_of h2 q]
    rfl
  | .non :: xs, _, is, h, e => by cases e
  | .bl _ :: xs, _, is, h, e => by cases e
  | .str _ :: xs, _, is, h, e => by cases e
  | .tup _ :: xs, _, is, h, e => by cases e
  | .lst _ :: xs, _, is, h, e => by cases e
  | .dct _ :: xs, _, is, h, e => by cases e
theorem bools_of {K : PySem.W.Frag} {W : AS} {H : Hp} : ∀ {xs : List PV} {vs : List V} {is : List Bool}, Reps K W H xs vs → bools? xs = some is → vs = is.map V.bl
  | [], _, is, h, e => by
    cases (show [] = is from Option.some.inj e)
    exact h
  | .bl i :: xs, _, is, h, e => by
    obtain ⟨v, r, e1, h1, h2⟩ := h
    obtain ⟨js, q, e2⟩ := Option.map_eq_some_iff.mp (show (bools? xs).map (i :: ·) = some is from e)
    subst e2
    rw [e1, show v = .bl i from h1, bools_of h2 q]
    rfl
  | .non :: xs, _, is, h, e => by cases e
  | .int _ :: xs, _, is, h, e => by cases e
  | .str _ :: xs, _, is, h, e => by cases e
  | .tup _ :: xs, _, is, h, e => by cases e
  | .lst _ :: xs, _, is, h, e => by cases e
  | .dct _ :: xs, _, is, h, e => by cases e
theorem breps1 {K : PySem.W.Frag} {W : AS} {H : Hp} {v : PV} {xs : List V} (h : BReps K W H [v] xs) : ∃ x, xs = [x] ∧ BRep K W H v x := by
  obtain ⟨x, r, e, h1, h2⟩ := h
  rw [show r = [] from h2] at e
  exact ⟨x, e, h1⟩
theorem breps2 {K : PySem.W.Frag} {W : AS} {H : Hp} {v w : PV} {xs : List V} (h : BReps K W H [v, w] xs) : ∃ x y, xs = [x, y] ∧ BRep K W H v x ∧ BRep K W H w y := by
  obtain ⟨x, r, e, h1, h2⟩ := h
  obtain ⟨y, e2, h3⟩ := breps1 h2
  rw [e2] at e
  exact ⟨x, y, e, h1, h3⟩
theorem bias_cases {b : Bi} {vs : List PV} {res : RV} (e : bias b vs = some res) : (∃ v, vs = [v] ∧ biEv b [v] = some res) ∨ ∃ v w, vs = [v, w] ∧ biEv b [v, w] = some res := by
  unfold bias at e
  split at e
  · rename_i hl
    match vs, hl with
    | [], _ => cases b <;> cases e
    | [v], _ => exact .inl ⟨v, rfl, e⟩
    | [v, w], _ => exact .inr ⟨v, w, rfl, e⟩
    | _ :: _ :: _ :: _, h => simp at h
  · cases e
section
variable {K : PySem.W.Frag}
theorem bi_len : CallOk K (fun xs H Q => ∃ p ys, xs = [.ref p] ∧ (SqL K H p ys ∨ SqT K H p ys) ∧ Q (.int ys.length) H) .len := by
  intro Z pn σ H ρ vs xs res Q s h e q
  rcases bias_cases e with ⟨v, rfl, e⟩ | ⟨v, w, rfl, e⟩
  · obtain ⟨x, rfl, hx⟩ := breps1 h
    cases v with
    | tup ys =>
      obtain ⟨a, us, rfl, h1, h2⟩ := hx
      cases e
      refine ⟨a, us, rfl, .inr h1.sq, ?_⟩
      rw [h2.length]
      exact q _ _ (post_int s)
    | lst ys =>
      obtain ⟨a, us, rfl, h1, h2⟩ := hx
      cases e
      refine ⟨a, us, rfl, .inl h1, ?_⟩
      rw [h2.length]
      exact q _ _ (post_int s)
    | _ => cases e
  · cases v <;> cases e
theorem bi_int : CallOk K (fun xs H Q => (∃ i, xs = [.int i] ∧ Q (.int i) H) ∨ ∃ k, xs = [.bl k] ∧ Q (.int (if k then 1 else 0)) H) .int := by
  intro Z pn σ H ρ vs xs res Q s h e q
  rcases bias_cases e with ⟨v, rfl, e⟩ | ⟨v, w, rfl, e⟩
  · obtain ⟨x, rfl, hx⟩ := breps1 h
    cases v with
    | int i =>
      cases (show x = .int i from hx)
      cases e
      exact .inl ⟨i, rfl, q _ _ (post_int s)⟩
    | bl k =>
      cases (show x = .bl k from hx)
      cases e
      exact .inr ⟨k, rfl, q _ _ (post_int s)⟩
    | _ => cases e
  · cases v <;> cases e
theorem bi_bool : CallOk K (fun xs H Q => (∃ i, xs = [.int i] ∧ Q (.bl (i != 0)) H) ∨ ∃ k, xs = [.bl k] ∧ Q (.bl k) H) .bool := by
  intro Z pn σ H ρ vs xs res Q s h e q
  rcases bias_cases e with ⟨v, rfl, e⟩ | ⟨v, w, rfl, e⟩
  · obtain ⟨x, rfl, hx⟩ := breps1 h
    cases v with
    | int i =>
      cases (show x = .int i from hx)
      cases e
      exact .inl ⟨i, rfl, q _ _ (post_bl s)⟩
    | bl k =>
      cases (show x = .bl k from hx)
      cases e
      exact .inr ⟨k, rfl, q _ _ (post_bl s)⟩
    | _ => cases e
  · cases v <;> cases e
theorem bi_tuple : CallOk K (fun xs H Q => ∃ p ys, xs = [.ref p] ∧ ((SqL K H p ys ∧ ∀ l, H l = none → Q (.ref l) (upd H l (.tup ys))) ∨ (SqT K H p ys ∧ Q (.ref p) H))) .tuple := by
  intro Z pn σ H ρ vs xs res Q s h e q
  rcases bias_cases e with ⟨v, rfl, e⟩ | ⟨v, w, rfl, e⟩
  · obtain ⟨x, rfl, hx⟩ := breps1 h
    cases v with
    | tup ys =>
      obtain ⟨a, us, rfl, h1, h2⟩ := hx
      cases e
      exact ⟨a, us, rfl, .inr ⟨h1.sq, q _ _ (post_tup_at s h1 h2)⟩⟩
    | lst ys =>
      obtain ⟨a, us, rfl, h1, h2⟩ := hx
      cases e
      exact ⟨a, us, rfl, .inl ⟨h1, fun p hp => q _ _ (PostE.tup s h2 hp)⟩⟩
    | _ => cases e
  · cases v <;> cases e
theorem bi_list : CallOk K (fun xs H Q => ∃ p ys, xs = [.ref p] ∧ (SqL K H p ys ∨ SqT K H p ys) ∧ ∀ l, H l = none → Q (.ref l) (upd H l (.lst ys))) .list := by
  intro Z pn σ H ρ vs xs res Q s h e q
  rcases bias_cases e with ⟨v, rfl, e⟩ | ⟨v, w, rfl, e⟩
  · obtain ⟨x, rfl, hx⟩ := breps1 h
    cases v with
    | tup ys =>
      obtain ⟨a, us, rfl, h1, h2⟩ := hx
      cases e
      exact ⟨a, us, rfl, .inr h1.sq, fun p hp => q _ _ (PostE.lst s h2 hp)⟩
    | lst ys =>
      obtain ⟨a, us, rfl, h1, h2⟩ := hx
      cases e
      exact ⟨a, us, rfl, .inl h1, fun p hp => q _ _ (PostE.lst s h2 hp)⟩
    | _ => cases e
  · cases v <;> cases e
theorem bi_all : CallOk K (rAll K) .all := by
  intro Z pn σ H ρ vs xs res Q s h e q
  rcases bias_cases e with ⟨v, rfl, e⟩ | ⟨v, w, rfl, e⟩
  · obtain ⟨x, rfl, hx⟩ := breps1 h
    cases v with
    | lst ys =>
      obtain ⟨a, us, rfl, h1, h2⟩ := hx
      obtain ⟨bs, e1, e2⟩ := Option.map_eq_some_iff.mp (show (bools? ys).map _ = some res from e)
      subst e2
      rw [bools_of h2 e1] at h1
      exact ⟨a, bs, rfl, h1, q _ _ (post_bl s)⟩
    | _ => cases e
  · cases v <;> cases e
theorem bi_any : CallOk K (rAny K) .any := by
  intro Z pn σ H ρ vs xs res Q s h e q
  rcases bias_cases e with ⟨v, rfl, e⟩ | ⟨v, w, rfl, e⟩
  · obtain ⟨x, rfl, hx⟩ := breps1 h
    cases v with
    | lst ys =>
      obtain ⟨a, us, rfl, h1, h2⟩ := hx
      obtain ⟨bs, e1, e2⟩ := Option.map_eq_some_iff.mp (show (bools? ys).map _ = some res from e)
      subst e2
      rw [bools_of h2 e1] at h1
      exact ⟨a, bs, rfl, h1, q _ _ (post_bl s)⟩
    | _ => cases e
  · cases v <;> cases e
theorem bi_abs : CallOk K (fun xs H Q => ∃ i, xs = [.int i] ∧ Q (.int (if i < 0 then -i else i)) H) .abs := by
  intro Z pn σ H ρ vs xs res Q s h e q
  rcases bias_cases e with ⟨v, rfl, e⟩ | ⟨v, w, rfl, e⟩
  · obtain ⟨x, rfl, hx⟩ := breps1 h
    cases v with
    | int i =>
      cases (show x = .int i from hx)
      cases e
      exact ⟨i, rfl, q _ _ (post_int s)⟩
    | _ => cases e
  · cases v <;> cases e
theorem bi_max : CallOk K (fun xs H Q => ∃ i j, xs = [.int i, .int j] ∧ Q (.int (if j > i then j else i)) H) .max := by
  intro Z pn σ H ρ vs xs res Q s h e q
  rcases bias_cases e with ⟨v, rfl, e⟩ | ⟨v, w, rfl, e⟩
  · cases v <;> cases e
  · obtain ⟨x, y, rfl, hx, hy⟩ := breps2 h
    cases v with
    | int i =>
      cases w with
      | int j =>
        cases (show x = .int i from hx)
        cases (show y = .int j from hy)
        cases e
        exact ⟨i, j, rfl, q _ _ (post_int s)⟩
      | _ => cases e
    | _ => cases e
theorem bi_min : CallOk K (fun xs H Q => ∃ i j, xs = [.int i, .int j] ∧ Q (.int (if j < i then j else i)) H) .min := by
  intro Z pn σ H ρ vs xs res Q s h e q
  rcases bias_cases e with ⟨v, rfl, e⟩ | ⟨v, w, rfl, e⟩
  · cases v <;> cases e
  · obtain ⟨x, y, rfl, hx, hy⟩ := breps2 h
    cases v with
    | int i =>
      cases w with
      | int j =>
        cases (show x = .int i from hx)
        cases (show y = .int j from hy)
        cases e
        exact ⟨i, j, rfl, q _ _ (post_int s)⟩
      | _ => cases e
    | _ => cases e
theorem bi_sum : CallOk K (fun xs H Q => rSum K xs H Q ∨ rSumT K xs H Q) .sum := by
  intro Z pn σ H ρ vs xs res Q s h e q
  rcases bias_cases e with ⟨v, rfl, e⟩ | ⟨v, w, rfl, e⟩
  · obtain ⟨x, rfl, hx⟩ := breps1 h
    cases v with
    | lst ys =>
      obtain ⟨a, us, rfl, h1, h2⟩ := hx
      obtain ⟨bs, e1, e2⟩ := Option.map_eq_some_iff.mp (show (ints? ys).map _ = some res from e)
      subst e2
      rw [ints_of h2 e1] at h1
      exact .inl ⟨a, bs, rfl, h1, q _ _ (post_int s)⟩
    | tup ys =>
      obtain ⟨a, us, rfl, h1, h2⟩ := hx
      obtain ⟨bs, e1, e2⟩ := Option.map_eq_some_iff.mp (show (ints? ys).map _ = some res from e)
      subst e2
      have h1 := h1.sq
      rw [ints_of h2 e1] at h1
      exact .inr ⟨a, bs, rfl, h1, q _ _ (post_int s)⟩
    | _ => cases e
  · cases v <;> cases e
end
/-- a built-in's name and value -/
def Bi.nm : Bi → String
  | .len => "len" | .int => "int" | .tuple => "tuple" | .list => "list" | .all => "all" | .any => "any" | .min => "min" | .max => "max" | .sum => "sum" | .abs => "abs" | .bool => "bool"
def Bi.isTy : Bi → Bool
  | .int => true | .tuple => true | .list => true | .bool => true
  | _ => false
def Bi.val (b : Bi) : Value := if b.isTy then .type b.nm else .builtin b.nm
theorem bi_rule {X : Cx} (hc : X.calm = true) (b : Bi) : ∃ r, CallR X b.val r ∧ CallOk X.K r b := by
  cases b with
  | len => exact ⟨_, call_len_seq, bi_len⟩
  | int => exact ⟨_, call_int1, bi_int⟩
  | tuple => exact ⟨_, call_tuple_of, bi_tuple⟩
  | list => exact ⟨_, call_list_of, bi_list⟩
  | all => exact ⟨_, cr_all hc, bi_all⟩
  | any => exact ⟨_, cr_any hc, bi_any⟩
  | min => exact ⟨_, call_min2 hc, bi_min⟩
  | max => exact ⟨_, call_max2 hc, bi_max⟩
  | sum => exact ⟨_, (cr_sum hc).or (cr_sumT hc), bi_sum⟩
  | abs => exact ⟨_, call_abs, bi_abs⟩
  | bool => exact ⟨_, call_bool1, bi_bool⟩
theorem bi_boot : ∀ b : Bi, bootBuiltins (Str.ofString b.nm) = some b.val := fun b => by cases b <;> decide +kernel
end EV
set_option Elab.async false
set_option linter.all false
set_option maxRecDepth 100000
namespace EV
open PySem PySem.Spec PyProof.Rows L2

/-! ### the check that code is the code of a syntax -/
/-- an exception class of the module: its name, its base's, its fields -/
structure ExI where
  name : Str
  base : Str
  fs : List Str
structure Tab where
  glo : List Str
  fns : List (Str × List Str)
  kws : List (Nat × Nat × List Str × List Nat)
  tabs : List (Str × List (Str × Str)) := []
  excs : List ExI := []
def visB (sc : Scope) (x : Str) : Bool := match sc.names.lookup x with
  | some .local => true | some .cell => true | some .free => true | _ => false
def locB (top : Bool) (sc : Scope) (x : Str) : Bool := match sc.names.lookup x with
  | some .local => true | some .cell => top | _ => false
def gloB (sc : Scope) (x : Str) : Bool := match sc.names.lookup x with
  | some .globalImplicit => true | _ => false
def nameB (x : Str) : Bool := !(x == ("__debug__" : Str)) && !(x == ("__classdict__" : Str))
def litB : PV → Const → Bool
  | .non, .none => true
  | .bl a, .bool b => a == b
  | .int i, .int j => i == j
  | .str x, .str y => x == y
  | _, _ => false
def isSlice : Expr → Bool
  | .Slice _ _ _ _ => true
  | _ => false
def isSet : Expr → Bool
  | .Set _ _ _ => true
  | _ => false
def isStar : Expr → Bool
  | .Starred _ _ => true
  | _ => false
def isComp : Expr → Bool
  | .ListComp _ _ _ _ => true
  | .SetComp _ _ _ _ => true
  | .DictComp _ _ _ _ _ => true
  | _ => false
/-- a test of its own kind -/
def ownTest : Expr → Bool
  | .UnaryOp .Not _ _ => true
  | .BoolOp _ _ _ => true
  | .IfExp _ _ _ _ => true
  | .Compare _ _ _ _ => true
  | _ => false
def Ty.nm : Ty → String
  | .int => "int" | .bool => "bool" | .str => "str" | .tuple => "tuple" | .list => "list" | .dict => "dict"
def tyB (sc : Scope) (t : Ty) : Expr → Bool
  | .Name x _ => x == Str.ofString t.nm && gloB sc x
  | _ => false
def tysB (sc : Scope) : List Ty → List Expr → Bool
  | [], es => es.isEmpty
  | t :: ts, es => match es with
    | e :: r => tyB sc t e && tysB sc ts r
    | [] => false
/-! targets -/
mutual
def Pt.slots : Pt → List Nat
  | .name i => [i]
  | .tup ps => ptsSlots ps
def ptsSlots : List Pt → List Nat
  | [] => []
  | p :: ps => p.slots ++ ptsSlots ps
end
mutual
def okP (N : List Str) (sc : Scope) (top : Bool) : Pt → Expr → Bool
  | .name i, e => match e with
    | .Name x _ => (N[i]? == some x) && locB top sc x
    | _ => false
  | .tup ps, e => match e with
    | .Tuple xs _ _ => okPs N sc top ps xs
    | _ => false
def okPs (N : List Str) (sc : Scope) (top : Bool) : List Pt → List Expr → Bool
  | [], xs => xs.isEmpty
  | p :: ps, xs => match xs with
    | x :: r => !isStar x && okP N sc top p x && okPs N sc top ps r
    | [] => false
end
def ownL (N : List Str) (own : List Nat) : List (Str × Nat) := own.map fun i => (N.getD i Str.empty, i)
def isTuple : Expr → Bool
  | .Tuple _ _ _ => true
  | _ => false
/-- a test whose kind the rules know -/
def testable : Expr → Bool
  | .IfExp _ _ _ _ => false
  | _ => true
def noStar (args : List (AK × Ex)) : Bool := args.all fun a => a.1 != .star
def kwNames : List Keyword → List Str
  | [] => []
  | ⟨n, _, _⟩ :: r => (match n with | some x => x | none => Str.empty) :: kwNames r
section
variable (T : Tab) (N : List Str)
mutual
def okE : Ex → Scope → Bool → Expr → Bool
  | .lit v, _, _, e => match e with
    | .Constant c _ _ => litB v c
    | _ => false
  | .glo n, sc, _, e => match e with
    | .Name x _ => (T.glo[n]? == some x) && gloB sc x && nameB x
    | _ => false
  | .var i, sc, _, e => match e with
    | .Name x _ => (N[i]? == some x) && visB sc x && nameB x
    | _ => false
  | .take i, sc, _, e => match e with
    | .Name x _ => (N[i]? == some x) && visB sc x && nameB x
    | _ => false
  | .tup es, sc, top, e => match e with
    | .Tuple xs _ _ => okAs es sc top xs
    | _ => false
  | .lst es, sc, top, e => match e with
    | .List xs _ => okAs es sc top xs
    | _ => false
  | .rep a n, sc, top, e => match e with
    | .BinOp x .Mult y _ => okE a sc top x && okE n sc top y
    | _ => false
  | .bin op a b, sc, top, e => match e with
    | .BinOp x o y _ => (o == op.op) && okE a sc top x && okE b sc top y
    | _ => false
  | .neg a, sc, top, e => match e with
    | .UnaryOp .USub x _ => okE a sc top x
    | _ => false
  | .cmp op a b, sc, top, e => match e with
    | .Compare x [o] [y] _ => (o == op.op) && !isSet y && okE a sc top x && okE b sc top y
    | _ => false
  | .chain op op' a b c, sc, top, e => match e with
    | .Compare x [o, o'] [y, z] _ => (o == op.op) && (o' == op'.op) && !isSet z && okE a sc top x && okE b sc top y && okE c sc top z
    | _ => false
  | .ands es, sc, top, e => match e with
    | .BoolOp .And xs _ => okL es sc top xs
    | _ => false
  | .ors es, sc, top, e => match e with
    | .BoolOp .Or xs _ => okL es sc top xs
    | _ => false
  | .not a, sc, top, e => match e with
    | .UnaryOp .Not x _ => testable x && okE a sc top x
    | _ => false
  | .ite c a b, sc, top, e => match e with
    | .IfExp t x y _ => testable t && okE c sc top t && okE a sc top x && okE b sc top y
    | _ => false
  | .idx a i, sc, top, e => match e with
    | .Subscript x y _ => !isSlice y && okE a sc top x && okE i sc top y
    | _ => false
  | .slc a lo hi, sc, top, e => match e with
    | .Subscript x (.Slice l h none _) _ => okE a sc top x && okO lo sc top l && okO hi sc top h
    | _ => false
  | .rev a, sc, top, e => match e with
    | .Subscript x (.Slice none none (some (.UnaryOp .USub (.Constant (.int j) _ _) _)) _) _ => j == 1 && okE a sc top x
    | _ => false
  | .call f args, sc, top, e => match e with
    | .Call (.Name x _) xs [] _ => (match T.fns[f]? with
      | some (y, ps) => (y == x) && (ps.length == args.length)
      | none => false) && gloB sc x && nameB x && noStar args && okAs args sc top xs
    | _ => false
  | .callK f args kws order, sc, top, e => match e with
    | .Call (.Name x _) xs ks _ => ((T.fns[f]?.map (·.1)) == some x) && T.kws.contains (f, args.length, kwNames ks, order) && gloB sc x && nameB x && noStar args && okAs args sc top xs && okKs kws sc top ks
    | _ => false
  | .bi b args, sc, top, e => match e with
    | .Call (.Name x _) xs [] _ => (x == Str.ofString b.nm) && gloB sc x && !xs.isEmpty && noStar args && okAs args sc top xs
    | _ => false
  | .isi a tys, sc, top, e => match e with
    | .Call (.Name x _) [y, t] [] _ => (x == ("isinstance" : Str)) && gloB sc x && okE a sc top y && !isStar y && (match t with
        | .Tuple ts _ _ => decide (tys.length ≤ 100) && tysB sc tys ts
        | t => tysB sc tys [t])
    | _ => false
  | .rng1 t a, sc, top, e => match e with
    | .Call (.Name x _) [.Call (.Name y _) [z] [] _] [] _ => (x == Str.ofString (if t then "tuple" else "list")) && (y == ("range" : Str)) && gloB sc x && gloB sc y && !isStar z && okE a sc top z
    | _ => false
  | .rng2 t a b, sc, top, e => match e with
    | .Call (.Name x _) [.Call (.Name y _) [z, w] [] _] [] _ => (x == Str.ofString (if t then "tuple" else "list")) && (y == ("range" : Str)) && gloB sc x && gloB sc y && !isStar z && !isStar w && okE a sc top z && okE b sc top w
    | _ => false
  | .comp elt own pt it tests, sc, top, e => match e with
    | .ListComp x [⟨tg, iter, ifs, a⟩] scope _ => (a == 0) && L2.blkC N sc scope (ownL N own) && (pt.slots.all fun j => own.contains j) && okP N (L2.relS scope sc) false pt tg && !isSet iter && okI it sc top tg iter && okTs tests (L2.relS scope sc) ifs && okE elt (L2.relS scope sc) false x
    | _ => false
  | .tab n kvs i, sc, top, e => match e with
    | .Subscript (.Name x _) y _ => (T.tabs[n]? == some (x, kvs)) && gloB sc x && nameB x && !isSlice y && okE i sc top y
    | _ => false
  | .callB f args, sc, top, e => match e with
    | .Call (.Name x _) xs [] _ => (match T.fns[f]? with
      | some (y, ps) => (y == x) && (ps.length == args.length)
      | none => false) && gloB sc x && nameB x && !xs.isEmpty && okBs args sc top xs
    | _ => false
def okBs : List (List (AK × Ex)) → Scope → Bool → List Expr → Bool
  | [], _, _, xs => xs.isEmpty
  | c :: cs, sc, top, xs => match xs with
    | x :: r => (match x with
      | .List ys _ => okAs c sc top ys
      | _ => false) && okBs cs sc top r
    | [] => false
def okL : List Ex → Scope → Bool → List Expr → Bool
  | [], _, _, xs => xs.isEmpty
  | c :: cs, sc, top, xs => match xs with
    | x :: r => testable x && okE c sc top x && okL cs sc top r
    | [] => false
def okAs : List (AK × Ex) → Scope → Bool → List Expr → Bool
  | [], _, _, xs => xs.isEmpty
  | (k, c) :: cs, sc, top, xs => match xs with
    | x :: r => (match k with
      | .star => (match x with
        | .Starred y _ => okE c sc top y
        | _ => false)
      | _ => !isStar x && okE c sc top x) && okAs cs sc top r
    | [] => false
def okKs : List Ex → Scope → Bool → List Keyword → Bool
  | [], _, _, xs => xs.isEmpty
  | c :: cs, sc, top, xs => match xs with
    | ⟨n, x, _⟩ :: r => n.isSome && okE c sc top x && okKs cs sc top r
    | [] => false
def okTs : List Ex → Scope → List Expr → Bool
  | [], _, xs => xs.isEmpty
  | c :: cs, sc, xs => match xs with
    | [x] => cs.isEmpty && testable x && okE c sc false x
    | _ => false
def okO : Option Ex → Scope → Bool → Option Expr → Bool
  | none, _, _, x => x.isNone
  | some c, sc, top, x => match x with
    | some e => okE c sc top e
    | none => false
def okI : It → Scope → Bool → Expr → Expr → Bool
  | .ex c, sc, top, _, e => okE c sc top e
  | .range args, sc, top, _, e => match e with
    | .Call (.Name x _) xs [] _ => (x == ("range" : Str)) && gloB sc x && noStar args && (args.length == 1 || args.length == 2) && okAs args sc top xs
    | _ => false
  | .enum c, sc, top, tg, e => match e with
    | .Call (.Name x _) [y] [] _ => (x == ("enumerate" : Str)) && gloB sc x && isTuple tg && !isStar y && okE c sc top y
    | _ => false
  | .zip c c', sc, top, tg, e => match e with
    | .Call (.Name x _) [y, z] [] _ => (x == ("zip" : Str)) && gloB sc x && isTuple tg && !isStar y && !isStar z && okE c sc top y && okE c' sc top z
    | _ => false
end
end

/-! ### the context of a def -/
/-- what a callee must leave alone, and what was handed to it -/
def W0 (Z : AS) (args : List (Bool × PV)) (vs : List V) : AS := fun a => Z a ∨ ∃ (i : Nat) (v : PV), args[i]? = some (true, v) ∧ vs[i]? = some (V.ref a)
structure ArgsAt (K : PySem.W.Frag) (Z : AS) (H : Hp) (args : List (Bool × PV)) (vs : List V) : Prop where
  len : args.length = vs.length
  zt : ∀ a, Z a → H a ≠ none
  fz : ∀ (i : Nat) (v : PV), args[i]? = some (false, v) → ∃ x, vs[i]? = some x ∧ Rep K (W0 Z args vs) H v x
  rf : ∀ (i : Nat) (v : PV), args[i]? = some (true, v) → ∃ a, vs[i]? = some (V.ref a) ∧ ¬ Z a ∧ Own K (W0 Z args vs) H v a
  one : ∀ (i j : Nat) (v w : PV), args[i]? = some (true, v) → args[j]? = some (true, w) → i = j
/-- what the callee left of the one list that was handed to it -/
def Left (K : PySem.W.Frag) (W : AS) (args : List (Bool × PV)) (vs : List V) (fin : List PV) (H' : Hp) : Prop :=
  ∀ (i : Nat) (v : PV) (a : Addr), args[i]? = some (true, v) → vs[i]? = some (V.ref a) → ∃ u, fin = [u] ∧ Own K W H' u a
def RetAt (K : PySem.W.Frag) (Z : AS) (H : Hp) (args : List (Bool × PV)) (vs : List V) (r : RV) (fin : List PV) (x : V) (H' : Hp) : Prop :=
  match r with
  | .fz v => Stp Z (W0 Z args vs) (W0 Z args vs) H H' ∧ Rep K (W0 Z args vs) H' v x ∧ Left K (W0 Z args vs) args vs fin H'
  | .fr v => ∃ a, x = .ref a ∧ Stp Z (W0 Z args vs) (plus (W0 Z args vs) a) H H' ∧ ¬ W0 Z args vs a ∧ Own K (plus (W0 Z args vs) a) H' v a ∧ Left K (plus (W0 Z args vs) a) args vs fin H'
/-- a def's promise: it does what C says -/
def spEV (K : PySem.W.Frag) (C : Cl) (f n : Nat) : Sp := fun vs H Q _ => ∃ (Z : AS) (args : List (Bool × PV)) (r : RV) (fin : List PV), args.length = n ∧ C f args = some (r, fin) ∧ ArgsAt K Z H args vs ∧
  ∀ x H', RetAt K Z H args vs r fin x H' → Q x H'
/-- a def that may be called here -/
def CallAt (X : Cx) (C : Cl) (f : Nat) (x : Str) (ps : List Str) : Prop := ∃ (k : Nat) (a : Addr) (fd : FuncData), FnOk X.prog X.w X.K X.mg X.base CX0 k a fd ps (spEV X.K C f ps.length) ∧ Room k X.A ∧ X.mg x = some (.ref a) ∧
  PySem.W.keepIn X.K (.ref a) = true ∧ Binds X.K fd ps []
/-- .. called with keywords -/
def KwAt (X : Cx) (C : Cl) (f : Nat) (x : Str) (ps : List Str) (n : Nat) (ks : List Str) (order : List Nat) : Prop := ∃ (k : Nat) (a : Addr) (fd : FuncData), FnOk X.prog X.w X.K X.mg X.base CX0 k a fd ps (spEV X.K C f ps.length) ∧ Room k X.A ∧ X.mg x = some (.ref a) ∧
  PySem.W.keepIn X.K (.ref a) = true ∧ L2.KBn X.K fd ps n ks (fun us ws => (pick (us ++ ws) order).getD []) (fun vs zs => (pick (vs ++ zs) order).getD [])
structure XOk (T : Tab) (G : List PV) (C : Cl) (N : List Str) (sc : Scope) (top : Bool) (X : Cx) : Prop where
  hN : X.N = N
  hnd : N.Nodup
  hsc : X.env.scope = sc
  hfn : top = true → ∀ x, X.fn x = true
  calm : X.calm = true
  hu : X.A.units + 64 < cLine
  glo : ∀ (n : Nat) (x : Str) (v : PV), T.glo[n]? = some x → G[n]? = some v → ∃ (u : Value) (y : V), X.mg x = some u ∧ RelV y u ∧ ∀ W H, Rep X.K W H v y
  bl : ∀ x : String, x ∈ ["len", "int", "tuple", "list", "all", "any", "min", "max", "sum", "abs", "bool", "str", "dict", "isinstance", "range", "enumerate", "zip"] → X.mg (Str.ofString x) = none
  tab : ∀ (n : Nat) (x : Str) (kvs : List (Str × Str)), T.tabs[n]? = some (x, kvs) → ∃ a : Addr, X.mg x = some (.ref a) ∧ ∀ z w, kvs.lookup z = some w → KDct X.K X.w a z (.str w)
  call : ∀ (f : Nat) (x : Str) (ps : List Str), T.fns[f]? = some (x, ps) → CallAt X C f x ps
  kw : ∀ (f : Nat) (x : Str) (ps : List Str) (n : Nat) (ks : List Str) (order : List Nat), T.fns[f]? = some (x, ps) → T.kws.contains (f, n, ks, order) = true → KwAt X C f x ps n ks order ∧ order.length = ps.length

section
variable {T : Tab} {G : List PV} {C : Cl} {N : List Str} {sc : Scope} {top : Bool} {X : Cx}
theorem XOk.vis (k : XOk T G C N sc top X) {x : Str} (h : visB sc x = true) : Vis X.env.scope x := by
  rw [k.hsc]
  unfold visB at h
  unfold Vis
  split at h
  · rename_i e; exact .inl e
  · rename_i e; exact .inr (.inl e)
  · rename_i e; exact .inr (.inr e)
  · cases h
theorem XOk.gl (k : XOk T G C N sc top X) {x : Str} (h : gloB sc x = true) : Gl X x := by
  show X.env.scope.names.lookup x = _
  rw [k.hsc]
  unfold gloB at h
  split at h
  · rename_i e; exact e
  · cases h
theorem nameB_1 {x : Str} (h : nameB x = true) : (x == ("__debug__" : Str)) = false := by
  unfold nameB at h
  rw [Bool.and_eq_true] at h
  simpa using h.1
theorem nameB_2 {x : Str} (h : nameB x = true) : (x == ("__classdict__" : Str)) = false := by
  unfold nameB at h
  rw [Bool.and_eq_true] at h
  simpa using h.2
theorem pe_lit {v : PV} {c : Const} {k : Nat} {pos : Pos} (h : litB v c = true) : PE X (.Constant c k pos) (tR X.K fun ρ => some (.fz v, ρ)) := by
  have go : ∀ y : V, (∀ W H, Rep X.K W H v y) → PE X (.Constant c k pos) (tC y) → PE X (.Constant c k pos) (tR X.K fun ρ => some (.fz v, ρ)) := fun y hy hp => pe_imp hp fun σ H Q ⟨Z, pn, ρ, r, ρ', s, e, q⟩ => by
    cases e
    exact q y H (PostE.val s (hy _ _))
  unfold litB at h
  split at h
  · exact go .non (fun _ _ => rfl) pe_non
  · rename_i a b
    have e : a = b := by simpa using h
    subst e
    exact go (.bl a) (fun _ _ => rfl) pe_bl
  · rename_i a b
    have e : a = b := by simpa using h
    subst e
    exact go (.int a) (fun _ _ => rfl) pe_int
  · rename_i a b
    have e : a = b := by simpa using h
    subst e
    exact go (.str a) (fun _ _ => rfl) pe_str
  · cases h
theorem pe_glo {n : Nat} {x : Str} {pos : Pos} (k : XOk T G C N sc top X) (h : (T.glo[n]? == some x) = true) (hg : gloB sc x = true) (hn : nameB x = true) : PE X (.Name x pos) (tR X.K fun ρ => G[n]?.map fun v => (.fz v, ρ)) := by
  have h : T.glo[n]? = some x := by simpa using h
  cases e : G[n]? with
  | none => exact ⟨fun pins s σ H Q I ⟨Z, pn, ρ, r, ρ', s, e1, q⟩ => by cases e1⟩
  | some v =>
    obtain ⟨u, y, hm, r, hr⟩ := k.glo n x v h e
    exact pe_imp (pe_glob (k.gl hg) hm r (nameB_1 hn)) fun σ H Q ⟨Z, pn, ρ, r, ρ', s, e, q⟩ => by
      cases e
      exact q y H (PostE.val s (hr _ _))
theorem pe_varT {i : Nat} {x : Str} {pos : Pos} (k : XOk T G C N sc top X) (h : (N[i]? == some x) = true) (hv : visB sc x = true) (hn : nameB x = true) : PE X (.Name x pos) (tVar i) :=
  pe_var (by rw [k.hN]; simpa using h) (k.vis hv) (nameB_1 hn) (nameB_2 hn)
theorem pe_varR {i : Nat} {x : Str} {pos : Pos} (k : XOk T G C N sc top X) (h : (N[i]? == some x) = true) (hv : visB sc x = true) (hn : nameB x = true) : PE X (.Name x pos) (tR X.K (use i)) :=
  pe_imp (pe_varT k h hv hn) fun σ H Q ⟨Z, pn, ρ, r, ρ', s, e, q⟩ => by
    obtain ⟨x, e1, p⟩ := s.use e
    exact ⟨x, e1, q x H p⟩
theorem pe_takeR {i : Nat} {x : Str} {pos : Pos} (k : XOk T G C N sc top X) (h : (N[i]? == some x) = true) (hv : visB sc x = true) (hn : nameB x = true) : PE X (.Name x pos) (tR X.K (takeE i)) :=
  pe_imp (pe_varT k h hv hn) fun σ H Q ⟨Z, pn, ρ, r, ρ', s, e, q⟩ => by
    obtain ⟨x, e1, p⟩ := s.takeE e
    exact ⟨x, e1, q x H p⟩
/-- a new tuple, a new list of values -/
theorem tup_rd {K : PySem.W.Frag} {g : Env → Option (List Bw × Env)} (σ : L2.St) (H : Hp) (Q : VK) (h : tR K (fun ρ => (g ρ).bind fun p => (vals? p.1).bind fun vs => if vs.length ≤ LIM then some (.fz (.tup vs), p.2) else none) σ H Q) : tTup (tAs K g) σ H Q := by
  obtain ⟨Z, pn, ρ, r, ρ', s, e, q⟩ := h
  obtain ⟨⟨bs, ρ1⟩, g1, e⟩ := Option.bind_eq_some_iff.mp e
  obtain ⟨vs, g2, e⟩ := Option.bind_eq_some_iff.mp e
  split at e
  · rename_i hz
    cases e
    refine ⟨Z, pn, ρ, bs, _, s, g1, fun xs H1 s1 e1 at1 => ?_⟩
    have r := at1.reps g2
    refine ⟨by rw [r.length, ← LIM_eq]; exact hz, fun p hp => q _ _ ((PostE.tup s1 r hp).pre e1)⟩
  · cases e
theorem lst_rd {K : PySem.W.Frag} {g : Env → Option (List Bw × Env)} (σ : L2.St) (H : Hp) (Q : VK) (h : tR K (fun ρ => (g ρ).bind fun p => (vals? p.1).bind fun vs => if vs.length ≤ LIM then some (.fr (.lst vs), p.2) else none) σ H Q) : tLst (tAs K g) σ H Q := by
  obtain ⟨Z, pn, ρ, r, ρ', s, e, q⟩ := h
  obtain ⟨⟨bs, ρ1⟩, g1, e⟩ := Option.bind_eq_some_iff.mp e
  obtain ⟨vs, g2, e⟩ := Option.bind_eq_some_iff.mp e
  split at e
  · rename_i hz
    cases e
    refine ⟨Z, pn, ρ, bs, _, s, g1, fun xs H1 s1 e1 at1 => ?_⟩
    have r := at1.reps g2
    refine ⟨by rw [r.length, ← LIM_eq]; exact hz, fun p hp => q _ _ ((PostE.lst s1 r hp).pre e1)⟩
  · cases e
/-- an answer's truth -/
theorem truV_rep {K : PySem.W.Frag} {W : AS} {H : Hp} {v : PV} {x : V} (h : Rep K W H v x) (hs : isStr v = false) : TruV K x H (truthy v) := by
  cases v with
  | non => rw [show x = _ from h]; rfl
  | bl b => rw [show x = _ from h]; rfl
  | int i => rw [show x = _ from h]; rfl
  | str z =>
    cases hs
  | tup xs =>
    obtain ⟨a, vs, rfl, h1, h2⟩ := h
    refine .inr (.inl ⟨vs, h1.sq, ?_⟩)
    have := h2.length
    cases vs <;> cases xs <;> simp [truthy] at this ⊢
  | lst xs =>
    obtain ⟨a, vs, rfl, h1, h2⟩ := h
    refine .inl ⟨vs, h1.sq, ?_⟩
    have := h2.length
    cases vs <;> cases xs <;> simp [truthy] at this ⊢
  | dct _ => exact False.elim h
end
end EV
set_option Elab.async false
set_option linter.all false
set_option maxRecDepth 100000
namespace EV
open PySem PySem.Spec PyProof.Rows L2
section
variable {K : PySem.W.Frag} {Z Zn : AS} {pn : Nat → Option Addr} {σ : L2.St} {H H' : Hp} {ρ ρ' : Env} {W W' : AS}
/-- the same slots, other contents of the owned ones -/
structure Alike (ρ ρ' : Env) : Prop where
  len : ρ'.length = ρ.length
  fz : ∀ (i : Nat) (v : PV), ρ'[i]? = some (Slot.fz v) → ρ[i]? = some (Slot.fz v)
  ow : ∀ (i : Nat) (v : PV), IsOw ρ' i v → ∃ w, IsOw ρ i w
  wo : ∀ (i : Nat) (v : PV), IsOw ρ i v → ∃ w, IsOw ρ' i w
  pn : ∀ (i : Nat) (v : PV), ρ'[i]? = some (Slot.pn v) → ∃ w, ρ[i]? = some (Slot.pn w)
theorem Alike.refl : Alike ρ ρ := ⟨rfl, fun _ _ h => h, fun _ v h => ⟨v, h⟩, fun _ v h => ⟨v, h⟩, fun _ v h => ⟨v, h⟩⟩
theorem Alike.wof (a : Alike ρ ρ') : ∀ b, Wof Z σ ρ' b ↔ Wof Z σ ρ b := fun b => by
  constructor
  · rintro (h | ⟨i, v, h1, h2⟩)
    · exact .inl h
    · obtain ⟨w, h⟩ := a.ow i v h1
      exact .inr ⟨i, w, h, h2⟩
  · rintro (h | ⟨i, v, h1, h2⟩)
    · exact .inl h
    · obtain ⟨w, h⟩ := a.wo i v h1
      exact .inr ⟨i, w, h, h2⟩
theorem Rep.iff {v : PV} {x : V} (h : ∀ b, W' b ↔ W b) (r : Rep K W H v x) : Rep K W' H v x := r.ext (Ext.less fun b q => (h b).mp q)
theorem Own.iff {v : PV} {a : Addr} (h : ∀ b, W' b ↔ W b) (r : Own K W H v a) : Own K W' H v a := r.ext (Ext.less fun b q => (h b).mp q) rfl
theorem SR.after (s : SR K Z pn σ H ρ) (al : Alike ρ ρ') (zt' : ∀ b, Zn b → H' b ≠ none) (e : Ext (Wof Z σ ρ) (Wof Zn σ ρ) H H') (nz : ∀ (i : Nat) (v : PV) (a : Addr), IsOw ρ i v → σ[i]? = some (some (V.ref a)) → ¬ Zn a)
    (own' : ∀ (i : Nat) (v : PV) (a : Addr), IsOw ρ' i v → σ[i]? = some (some (V.ref a)) → Own K (Wof Zn σ ρ) H' v a) : SR K Zn pn σ H' ρ' := by
  refine ⟨s.len.trans al.len.symm, zt', fun i v h => ?_, fun i v h => ?_, fun i j a v w h1 h2 e1 e2 => ?_, fun i v a h e1 => ?_⟩
  · obtain ⟨x, e1, r⟩ := s.fz i v (al.fz i v h)
    exact ⟨x, e1, (r.ext e).iff al.wof⟩
  · obtain ⟨w, h1⟩ := al.ow i v h
    obtain ⟨a, e1, _, _⟩ := s.ow i w h1
    exact ⟨a, e1, nz i w a h1 e1, (own' i v a h e1).iff al.wof⟩
  · obtain ⟨v', h1⟩ := al.ow i v h1
    obtain ⟨w', h2⟩ := al.ow j w h2
    exact s.inj i j a v' w' h1 h2 e1 e2
  · obtain ⟨w, h1⟩ := al.pn i v h
    exact s.pins i w a h1 e1
theorem modify_alike {i : Nat} {u : PV} (h : modify i (fun _ => some u) ρ = some ρ') : Alike ρ ρ' ∧ (∃ v, IsOw ρ i v) ∧ ∀ (j : Nat) (w : PV), IsOw ρ' j w → (j = i ∧ w = u) ∨ (j ≠ i ∧ IsOw ρ j w) := by
  unfold modify at h
  split at h
  · rename_i v e
    cases h
    have hl := lt_of_get e
    refine ⟨⟨List.length_set, fun j w h => ?_, fun j w h => ?_, fun j w h => ?_, fun j w h => ?_⟩, ⟨v, .inl e⟩, fun j w h => ?_⟩
    · rcases get_set h with ⟨_, q, _⟩ | ⟨_, q⟩
      · cases q
      · exact q
    · rcases h.set with ⟨q, _, _⟩ | ⟨_, q⟩
      · subst q; exact ⟨v, .inl e⟩
      · exact ⟨w, q⟩
    · by_cases q : i = j
      · subst q; exact ⟨u, .inl (List.getElem?_set_self hl)⟩
      · rcases h with h | h
        · exact ⟨w, .inl (by rw [List.getElem?_set_ne q]; exact h)⟩
        · exact ⟨w, .inr (by rw [List.getElem?_set_ne q]; exact h)⟩
    · rcases get_set h with ⟨_, q, _⟩ | ⟨_, q⟩
      · cases q
      · exact ⟨w, q⟩
    · rcases h.set with ⟨q, _, q2 | q2⟩ | ⟨n, q⟩
      · cases q2; exact .inl ⟨q.symm, rfl⟩
      · cases q2
      · exact .inr ⟨n.symm, q⟩
  · rename_i v e
    cases h
    have hl := lt_of_get e
    refine ⟨⟨List.length_set, fun j w h => ?_, fun j w h => ?_, fun j w h => ?_, fun j w h => ?_⟩, ⟨v, .inr e⟩, fun j w h => ?_⟩
    · rcases get_set h with ⟨_, q, _⟩ | ⟨_, q⟩
      · cases q
      · exact q
    · rcases h.set with ⟨q, _, _⟩ | ⟨_, q⟩
      · subst q; exact ⟨v, .inr e⟩
      · exact ⟨w, q⟩
    · by_cases q : i = j
      · subst q; exact ⟨u, .inr (List.getElem?_set_self hl)⟩
      · rcases h with h | h
        · exact ⟨w, .inl (by rw [List.getElem?_set_ne q]; exact h)⟩
        · exact ⟨w, .inr (by rw [List.getElem?_set_ne q]; exact h)⟩
    · rcases get_set h with ⟨q, q2, _⟩ | ⟨_, q⟩
      · subst q; exact ⟨v, e⟩
      · exact ⟨w, q⟩
    · rcases h.set with ⟨q, _, q2 | q2⟩ | ⟨n, q⟩
      · cases q2
      · cases q2; exact .inl ⟨q.symm, rfl⟩
      · exact .inr ⟨n.symm, q⟩
  · cases h
/-! ### arguments by places -/
theorem avGet_len : ∀ {bs : List Bw} {args : List (Bool × PV)}, avGet ρ bs = some args → args.length = bs.length
  | [], _, e => by cases e; rfl
  | .val x :: r, _, e => by
    obtain ⟨a, e1, e2⟩ := Option.map_eq_some_iff.mp (show (avGet ρ r).map ((false, x) :: ·) = some _ from e)
    subst e2
    rw [List.length_cons, List.length_cons, avGet_len e1]
  | .slot i :: r, _, e => by
    unfold avGet at e
    split at e
    · obtain ⟨a, e1, e2⟩ := Option.map_eq_some_iff.mp e
      subst e2
      rw [List.length_cons, List.length_cons, avGet_len e1]
    · obtain ⟨a, e1, e2⟩ := Option.map_eq_some_iff.mp e
      subst e2
      rw [List.length_cons, List.length_cons, avGet_len e1]
    · cases e
theorem avGet_at : ∀ {bs : List Bw} {args : List (Bool × PV)} {i : Nat} {t : Bool} {v : PV}, avGet ρ bs = some args → args[i]? = some (t, v) →
    (t = false ∧ bs[i]? = some (.val v)) ∨ (t = true ∧ ∃ j, bs[i]? = some (.slot j) ∧ IsOw ρ j v)
  | [], _, i, t, v, e, h => by cases e; simp at h
  | .val x :: r, _, i, t, v, e, h => by
    obtain ⟨a, e1, e2⟩ := Option.map_eq_some_iff.mp (show (avGet ρ r).map ((false, x) :: ·) = some _ from e)
    subst e2
    cases i with
    | zero =>
      have h : (false, x) = (t, v) := Option.some.inj h
      cases h
      exact .inl ⟨rfl, rfl⟩
    | succ i => exact avGet_at (i := i) e1 h
  | .slot j :: r, _, i, t, v, e, h => by
    unfold avGet at e
    split at e
    · rename_i w ew
      obtain ⟨a, e1, e2⟩ := Option.map_eq_some_iff.mp e
      subst e2
      cases i with
      | zero =>
        have h : (true, w) = (t, v) := Option.some.inj h
        cases h
        exact .inr ⟨rfl, j, rfl, .inl ew⟩
      | succ i => exact avGet_at (i := i) e1 h
    · rename_i w ew
      obtain ⟨a, e1, e2⟩ := Option.map_eq_some_iff.mp e
      subst e2
      cases i with
      | zero =>
        have h : (true, w) = (t, v) := Option.some.inj h
        cases h
        exact .inr ⟨rfl, j, rfl, .inr ew⟩
      | succ i => exact avGet_at (i := i) e1 h
    · cases e
theorem BwsAt.get : ∀ {bs : List Bw} {xs : List V} {i : Nat} {b : Bw}, BwsAt K W σ H bs xs → bs[i]? = some b → ∃ x, xs[i]? = some x ∧ BwAt K W σ H b x
  | [], _, _, _, _, h => by simp at h
  | c :: bs, _, 0, b, h, e => by
    obtain ⟨x, r, e1, h1, h2⟩ := h
    have e2 : c = b := by simpa using e
    subst e2; subst e1
    exact ⟨x, rfl, h1⟩
  | c :: bs, _, i + 1, b, h, e => by
    obtain ⟨x, r, e1, h1, h2⟩ := h
    subst e1
    obtain ⟨u, q1, q2⟩ := BwsAt.get (i := i) h2 (by simpa using e)
    exact ⟨u, by simpa using q1, q2⟩
theorem slots_mem : ∀ {bs : List Bw} {i j : Nat}, bs[i]? = some (.slot j) → j ∈ slots bs
  | [], _, _, h => by simp at h
  | .val _ :: r, 0, _, h => by cases (Option.some.inj h)
  | .val _ :: r, i + 1, _, h => slots_mem (i := i) (bs := r) h
  | .slot k :: r, 0, j, h => by
    have h : Bw.slot k = .slot j := Option.some.inj h
    cases h
    exact List.mem_cons_self
  | .slot k :: r, i + 1, j, h => List.mem_cons_of_mem _ (slots_mem (i := i) (bs := r) h)
theorem slots_one : ∀ {bs : List Bw} {i i' j j' : Nat}, (slots bs).length ≤ 1 → bs[i]? = some (.slot j) → bs[i']? = some (.slot j') → i = i'
  | [], _, _, _, _, _, h, _ => by simp at h
  | .val _ :: r, 0, _, _, _, _, h, _ => by cases (Option.some.inj h)
  | .val _ :: r, _ + 1, 0, _, _, _, _, h => by cases (Option.some.inj h)
  | .val _ :: r, i + 1, i' + 1, _, _, hl, h, h' => congrArg (· + 1) (slots_one (bs := r) hl h h')
  | .slot k :: r, 0, 0, _, _, _, _, _ => rfl
  | .slot k :: r, i + 1, i', j, j', hl, h, h' => by
    have := slots_mem (bs := r) (i := i) h
    have hl : (slots r).length + 1 ≤ 1 := hl
    cases e : slots r with
    | nil => rw [e] at this; cases this
    | cons _ _ => rw [e] at hl; simp at hl
  | .slot k :: r, 0, i' + 1, j, j', hl, h, h' => by
    have := slots_mem (bs := r) (i := i') h'
    have hl : (slots r).length + 1 ≤ 1 := hl
    cases e : slots r with
    | nil => rw [e] at this; cases this
    | cons _ _ => rw [e] at hl; simp at hl
theorem avPut_none : ∀ {bs : List Bw} {us : List PV}, slots bs = [] → avPut bs us ρ = some ρ
  | [], _, _ => rfl
  | .val _ :: r, us, h => avPut_none (bs := r) h
  | .slot _ :: _, _, h => by cases h
theorem avPut_one : ∀ {bs : List Bw} {u : PV} {j : Nat}, slots bs = [j] → avPut bs [u] ρ = modify j (fun _ => some u) ρ
  | [], _, _, h => by cases h
  | .val _ :: r, u, j, h => avPut_one (bs := r) h
  | .slot k :: r, u, j, h => by
    have h : k :: slots r = [j] := h
    injection h with h1 h2
    subst h1
    show (modify k (fun _ => some u) ρ).bind (fun ρ1 => avPut r [] ρ1) = modify k (fun _ => some u) ρ
    cases e : modify k (fun _ => some u) ρ with
    | none => rfl
    | some ρ1 => exact avPut_none (ρ := ρ1) h2
theorem slot_at : ∀ {bs : List Bw} {j : Nat}, j ∈ slots bs → ∃ i : Nat, bs[i]? = some (Bw.slot j)
  | [], _, h => by cases h
  | .val _ :: r, j, h => let ⟨i, e⟩ := slot_at (bs := r) h; ⟨i + 1, e⟩
  | .slot k :: r, j, h => by
    rcases List.mem_cons.mp h with e | h
    · subst e; exact ⟨0, rfl⟩
    · obtain ⟨i, e⟩ := slot_at (bs := r) h
      exact ⟨i + 1, e⟩

/-! ### a call, seen from the caller -/
/-- what the caller forbids to the callee -/
def Zc (Z : AS) (σ : L2.St) (ρ : Env) (args : List (Bool × PV)) (vs : List V) : AS := fun b => Wof Z σ ρ b ∧ ¬ ∃ (i : Nat) (v : PV), args[i]? = some (true, v) ∧ vs[i]? = some (V.ref b)
section
variable {bs : List Bw} {args : List (Bool × PV)} {vs : List V}
theorem w0_iff (s : SR K Z pn σ H ρ) (at1 : BwsAt K (Wof Z σ ρ) σ H bs vs) (g : avGet ρ bs = some args) : ∀ b, W0 (Zc Z σ ρ args vs) args vs b ↔ Wof Z σ ρ b := fun b => by
  constructor
  · rintro (⟨h, _⟩ | ⟨i, v, h1, h2⟩)
    · exact h
    · rcases avGet_at g h1 with ⟨q, _⟩ | ⟨_, j, hb, ho⟩
      · cases q
      · obtain ⟨x, e, at2⟩ := at1.get hb
        rw [h2] at e
        cases e
        exact .inr ⟨j, v, ho, at2⟩
  · intro h
    by_cases q : ∃ (i : Nat) (v : PV), args[i]? = some (true, v) ∧ vs[i]? = some (V.ref b)
    · exact .inr q
    · exact .inl ⟨h, q⟩
theorem args_at (s : SR K Z pn σ H ρ) (at1 : BwsAt K (Wof Z σ ρ) σ H bs vs) (g : avGet ρ bs = some args) (h1 : (slots bs).length ≤ 1) : ArgsAt K (Zc Z σ ρ args vs) H args vs := by
  have wi := w0_iff s at1 g
  refine ⟨by rw [avGet_len g, at1.length], fun a h => s.wt a h.1, fun i v e => ?_, fun i v e => ?_, fun i j v w e e' => ?_⟩
  · rcases avGet_at g e with ⟨_, hb⟩ | ⟨q, _⟩
    · obtain ⟨x, ex, at2⟩ := at1.get hb
      exact ⟨x, ex, Rep.iff wi at2⟩
    · cases q
  · rcases avGet_at g e with ⟨q, _⟩ | ⟨_, j, hb, ho⟩
    · cases q
    · obtain ⟨x, ex, at2⟩ := at1.get hb
      obtain ⟨a, ea, nz, o⟩ := s.ow j v ho
      have at2 : σ[j]? = some (some x) := at2
      rw [ea] at at2
      cases at2
      exact ⟨a, ex, fun z => z.2 ⟨i, v, e, ex⟩, o.iff wi⟩
  · rcases avGet_at g e with ⟨q, _⟩ | ⟨_, k, hb, _⟩
    · cases q
    · rcases avGet_at g e' with ⟨q, _⟩ | ⟨_, k', hb', _⟩
      · cases q
      · exact slots_one h1 hb hb'
/-- the caller's slots behind the call -/
theorem sr_back {Zn : AS} {fin : List PV} (s : SR K Z pn σ H ρ) (at1 : BwsAt K (Wof Z σ ρ) σ H bs vs) (g : avGet ρ bs = some args) (h1 : (slots bs).length ≤ 1)
    (e : Ext (Wof Z σ ρ) (Wof Zn σ ρ) H H') (zk : ∀ b, Zc Z σ ρ args vs b → H' b = H b) (zt' : ∀ b, Zn b → H' b ≠ none) (nz : ∀ (i : Nat) (v : PV) (a : Addr), IsOw ρ i v → σ[i]? = some (some (V.ref a)) → ¬ Zn a)
    (lf : Left K (Wof Zn σ ρ) args vs fin H') (hp : avPut bs fin ρ = some ρ') : SR K Zn pn σ H' ρ' ∧ Alike ρ ρ' := by
  have keep : ∀ (i : Nat) (v : PV) (a : Addr), IsOw ρ i v → σ[i]? = some (some (V.ref a)) → (¬ ∃ (k : Nat) (w : PV), args[k]? = some (true, w) ∧ vs[k]? = some (V.ref a)) → Own K (Wof Zn σ ρ) H' v a := fun i v a ho ea n => by
    obtain ⟨b, eb, _, o⟩ := s.ow i v ho
    rw [ea] at eb
    cases eb
    exact o.ext e (zk a ⟨.inr ⟨i, v, ho, ea⟩, n⟩)
  cases hs : slots bs with
  | nil =>
    rw [avPut_none hs] at hp
    cases hp
    have none : ∀ a : Addr, ¬ ∃ (k : Nat) (w : PV), args[k]? = some (true, w) ∧ vs[k]? = some (V.ref a) := fun a ⟨k, w, q, _⟩ => by
      rcases avGet_at g q with ⟨q, _⟩ | ⟨_, j, hb, _⟩
      · cases q
      · have := slots_mem hb
        rw [hs] at this
        cases this
    exact ⟨s.after Alike.refl zt' e nz fun i v a ho ea => keep i v a ho ea (none a), Alike.refl⟩
  | cons j r =>
    have hr : r = [] := by
      rw [hs] at h1
      cases r with
      | nil => rfl
      | cons _ _ => simp at h1
    subst hr
    obtain ⟨k, hk⟩ := slot_at (bs := bs) (j := j) (by rw [hs]; exact List.mem_cons_self)
    obtain ⟨x, ex, at2⟩ := at1.get hk
    have at2 : σ[j]? = some (some x) := at2
    -- the list that was handed on
    have hlen := avGet_len g
    have kl : k < args.length := by rw [hlen]; exact lt_of_get hk
    obtain ⟨⟨t, v⟩, ht⟩ : ∃ p, args[k]? = some p := ⟨_, List.getElem?_eq_getElem kl⟩
    rcases avGet_at g ht with ⟨_, q⟩ | ⟨rfl, j', q, ho⟩
    · rw [hk] at q
      cases q
    · rw [hk] at q
      cases q
      obtain ⟨a, ea, _, _⟩ := s.ow j v ho
      rw [ea] at at2
      cases at2
      obtain ⟨u, rfl, ou⟩ := lf k v a ht ex
      rw [avPut_one hs] at hp
      obtain ⟨al, _, only⟩ := modify_alike hp
      refine ⟨s.after al zt' e nz fun i w b hw eb => ?_, al⟩
      rcases only i w hw with ⟨rfl, rfl⟩ | ⟨n, hw⟩
      · rw [ea] at eb
        cases eb
        exact ou
      · refine keep i w b hw eb fun ⟨k', w', q1, q2⟩ => ?_
        rcases avGet_at g q1 with ⟨q, _⟩ | ⟨_, j', hb', ho'⟩
        · cases q
        · have := slots_one h1 hk hb'
          subst this
          rw [hk] at hb'
          cases hb'
          rw [ex] at q2
          cases q2
          exact n (s.inj i j a w v hw ho eb ea)
theorem ret_post {r : RV} {fin : List PV} {x : V} (s : SR K Z pn σ H ρ) (at1 : BwsAt K (Wof Z σ ρ) σ H bs vs) (g : avGet ρ bs = some args) (h1 : (slots bs).length ≤ 1)
    (ra : RetAt K (Zc Z σ ρ args vs) H args vs r fin x H') (hp : avPut bs fin ρ = some ρ') : PostE K Z pn σ H ρ r ρ' x H' := by
  have wi := w0_iff s at1 g
  have zsub : ∀ b, Z b → Zc Z σ ρ args vs b := fun b q => ⟨.inl q, fun ⟨i, v, e, ev⟩ => by
    rcases avGet_at g e with ⟨q', _⟩ | ⟨_, j, hb, ho⟩
    · cases q'
    · obtain ⟨y, ey, at2⟩ := at1.get hb
      rw [ev] at ey
      cases ey
      obtain ⟨a, ea, nz, _⟩ := s.ow j v ho
      have at2 : σ[j]? = some (some (V.ref b)) := at2
      rw [ea] at at2
      cases at2
      exact nz q⟩
  have own_nz : ∀ (i : Nat) (v : PV) (a : Addr), IsOw ρ i v → σ[i]? = some (some (V.ref a)) → ¬ Z a := fun i v a ho ea => by
    obtain ⟨b, eb, nz, _⟩ := s.ow i v ho
    rw [ea] at eb
    cases eb
    exact nz
  cases r with
  | fz v =>
    obtain ⟨st, rp, lf⟩ := ra
    have ex : Ext (Wof Z σ ρ) (Wof Z σ ρ) H H' := (Ext.less fun b q => (wi b).mp q).trans (st.ext.trans (Ext.less fun b q => (wi b).mpr q))
    have zk : ∀ b, Z b → H' b = H b := fun b q => st.zk b (zsub b q)
    obtain ⟨s2, al⟩ := sr_back s at1 g h1 ex st.zk (fun b q => by rw [zk b q]; exact s.zt b q) own_nz (fun i v a e1 e2 => by
      obtain ⟨u, e3, o⟩ := lf i v a e1 e2
      exact ⟨u, e3, o.iff fun b => (wi b).symm⟩) hp
    exact ⟨s2, ⟨ex.trans (Ext.less fun b q => (al.wof b).mp q), zk⟩, Rep.iff al.wof (Rep.iff (fun b => (wi b).symm) rp)⟩
  | fr v =>
    obtain ⟨a, rfl, st, na, ow, lf⟩ := ra
    have na' : ¬ Wof Z σ ρ a := fun q => na ((wi a).mpr q)
    have wip : ∀ b, plus (W0 (Zc Z σ ρ args vs) args vs) a b ↔ Wof (plus Z a) σ ρ b := fun b => by
      constructor
      · rintro (q | q)
        · exact Wof.plus_sub b ((wi b).mp q)
        · exact .inl (.inr q)
      · intro q
        rcases q.of_plus with q | q
        · exact .inl ((wi b).mpr q)
        · exact .inr q
    have ex : Ext (Wof Z σ ρ) (Wof (plus Z a) σ ρ) H H' := (Ext.less fun b q => (wi b).mp q).trans (st.ext.trans (Ext.less fun b q => (wip b).mpr q))
    have zk : ∀ b, Z b → H' b = H b := fun b q => st.zk b (zsub b q)
    obtain ⟨s2, al⟩ := sr_back (Zn := plus Z a) s at1 g h1 ex st.zk (fun b q => by
        rcases q with q | q
        · rw [zk b q]; exact s.zt b q
        · rw [q]; exact ow.some) (fun i v b ho eb q => by
        rcases q with q | q
        · exact own_nz i v b ho eb q
        · subst q; exact na' (.inr ⟨i, v, ho, eb⟩)) (fun i v b e1 e2 => by
      obtain ⟨u, e3, o⟩ := lf i v b e1 e2
      exact ⟨u, e3, o.iff fun b => (wip b).symm⟩) hp
    exact ⟨a, rfl, s2, ⟨ex.trans (Ext.less fun b q => (al.wof b).mp q), zk⟩, fun q => na' ((al.wof a).mp q), (ow.iff fun b => (wip b).symm).iff al.wof⟩
end
end
end EV
set_option Elab.async false
set_option linter.all false
set_option maxRecDepth 100000
namespace EV
open PySem PySem.Spec PyProof.Rows L2

/-- an iterator hands out these data, while src holds -/
structure Feeds (K : PySem.W.Frag) (J : L2.It) (items : List PV) (src : AS → Hp → Prop) : Prop where
  ext : ∀ W W' H H', Ext W W' H H' → src W H → src W' H'
  go : ∀ W i H, src W H → i < items.length → J.go i H
  stop : ∀ W H, src W H → J.stop items.length H
  yld : ∀ Z pn σ H ρ i v x H', src (Wof Z σ ρ) H → SR K Z pn σ H ρ → items[i]? = some v → J.yld i H x H' →
    SR K Z pn σ H' ρ ∧ Stp Z (Wof Z σ ρ) (Wof Z σ ρ) H H' ∧ Rep K (Wof Z σ ρ) H' v x ∧ (∀ b o, H b = some o → H' b = some o)
def tI (K : PySem.W.Frag) (g : Env → Option (List PV × Env)) : TI := fun σ H R => ∃ Z pn ρ items ρ', SR K Z pn σ H ρ ∧ g ρ = some (items, ρ') ∧
  ∀ J src H', SR K Z pn σ H' ρ' → Stp Z (Wof Z σ ρ) (Wof Z σ ρ') H H' → Feeds K J items src → src (Wof Z σ ρ') H' → R J H'
theorem feeds_list {K : PySem.W.Frag} {a : Addr} {items : List PV} : Feeds K (Itl K a) items fun W H => ∃ vs, SqLW K W H a vs ∧ Reps K W H items vs where
  ext := fun W W' H H' e ⟨vs, h1, h2⟩ => ⟨vs, h1.ext e, h2.ext e⟩
  go := fun W i H ⟨vs, h1, h2⟩ hi => by
    obtain ⟨v, e, _⟩ := h2.get (List.getElem?_eq_getElem hi)
    exact ⟨vs, v, h1.sq, e⟩
  stop := fun W H ⟨vs, h1, h2⟩ => ⟨vs, h1.sq, by rw [h2.length]; exact Nat.le_refl _⟩
  yld := fun Z pn σ H ρ i v x H' ⟨vs, h1, h2⟩ s e ⟨eH, y⟩ => by
    subst eH
    obtain ⟨u, eu, r⟩ := h2.get e
    have := y vs h1.sq
    rw [eu] at this
    cases this
    exact ⟨s, Stp.refl, r, fun _ _ h => h⟩
theorem feeds_tup {K : PySem.W.Frag} {a : Addr} {items : List PV} : Feeds K (Itt K a) items fun W H => ∃ vs, SqTW K W H a vs ∧ Reps K W H items vs where
  ext := fun W W' H H' e ⟨vs, h1, h2⟩ => ⟨vs, h1.ext e, h2.ext e⟩
  go := fun W i H ⟨vs, h1, h2⟩ hi => by
    obtain ⟨v, e, _⟩ := h2.get (List.getElem?_eq_getElem hi)
    exact ⟨vs, v, h1.sq, e⟩
  stop := fun W H ⟨vs, h1, h2⟩ => ⟨vs, h1.sq, by rw [h2.length]; exact Nat.le_refl _⟩
  yld := fun Z pn σ H ρ i v x H' ⟨vs, h1, h2⟩ s e ⟨eH, y⟩ => by
    subst eH
    obtain ⟨u, eu, r⟩ := h2.get e
    have := y vs h1.sq
    rw [eu] at this
    cases this
    exact ⟨s, Stp.refl, r, fun _ _ h => h⟩
theorem feeds_range {K : PySem.W.Frag} {lo : Int} {n : Nat} {items : List PV} (h : items = (List.range n).map fun k => .int (lo + (k : Nat))) : Feeds K (Itr lo n) items fun _ _ => True where
  ext := fun _ _ _ _ _ _ => True.intro
  go := fun W i H _ hi => by
    subst h
    show i < n
    simpa using hi
  stop := fun W H _ => by
    subst h
    show n ≤ _
    simp
  yld := fun Z pn σ H ρ i v x H' _ s e ⟨eH, y⟩ => by
    subst h eH
    subst y
    rw [List.getElem?_map] at e
    have hi : i < n := by
      cases q : (List.range n)[i]? with
      | none => rw [q] at e; cases e
      | some k => simpa using lt_of_get q
    rw [List.getElem?_range hi] at e
    cases e
    exact ⟨s, Stp.refl, rfl, fun _ _ h => h⟩
section
variable {X : Cx} {tg : Expr}
/-- a list or a tuple -/
def iSeq (K : PySem.W.Frag) (tl : TE) : TI := fun σ H R => tl σ H fun x H1 => ∃ a, x = .ref a ∧ (((∃ xs, SqL K H1 a xs) ∧ R (Itl K a) H1) ∨ ((∃ xs, SqT K H1 a xs) ∧ R (Itt K a) H1))
theorem pi_seq {l : Expr} {tl : TE} (hl : PE X l tl) : PI X tg l (iSeq X.K tl) := by
  refine ⟨fun pins s σ H R I h => ?_⟩
  refine thn (hl.run pins s σ H _ I h) fun v s1 ⟨x, H1, I1, r1, q1⟩ => ?_
  obtain ⟨a, e, q⟩ := q1
  subst e
  cases r1
  rcases q with ⟨⟨xs, hq⟩, q⟩ | ⟨⟨xs, hq⟩, q⟩
  · obtain ⟨its, rv, p, hz⟩ := I1.list hq
    refine wpAny_pyIter_list p.isList ?_
    refine ⟨s1.heap.objs.size, [s1.heap.objs.size], _, _, H1, rfl, I1.kept (t' := s1.toks) fun b o e => Heap.get?_push_of_some _ e, turn_list a _, ⟨_, Heap.get?_push_size _ rfl, rfl, rfl⟩, fun b hb => ?_, q⟩
    have e : b = s1.heap.objs.size := by simpa using hb
    subst e
    exact I1.fpOk (Nat.le_refl _) (I1.hok.fresh (Nat.le_refl _))
  · obtain ⟨its, rv, p, hz⟩ := I1.tuple hq
    refine wpAny_pyIter_tuple (show s1.heap.IsTuple a its.toArray from p) ?_
    refine ⟨s1.heap.objs.size, [s1.heap.objs.size], _, _, H1, rfl, I1.kept (t' := s1.toks) fun b o e => Heap.get?_push_of_some _ e, turn_tuple a _, ⟨_, Heap.get?_push_size _ rfl, rfl, rfl⟩, fun b hb => ?_, q⟩
    have e : b = s1.heap.objs.size := by simpa using hb
    subst e
    exact I1.fpOk (Nat.le_refl _) (I1.hok.fresh (Nat.le_refl _))
theorem pi_imp {l : Expr} {t t' : TI} (h : PI X tg l t) (q : ∀ σ H R, t' σ H R → t σ H R) : PI X tg l t' := ⟨fun pins s σ H R I hw => h.run pins s σ H R I (q σ H R hw)⟩
/-- over data that stand already -/
theorem pi_ex {l : Expr} {g : Env → Option (RV × Env)} (hl : PE X l (tR X.K g)) : PI X tg l (tI X.K fun ρ => (g ρ).bind fun p => p.1.val.seq?.map fun xs => (xs, p.2)) :=
  pi_imp (pi_seq hl) fun σ H R ⟨Z, pn, ρ, items, ρ', s, e, q⟩ => by
    obtain ⟨⟨r, ρ1⟩, g1, e⟩ := Option.bind_eq_some_iff.mp e
    obtain ⟨xs, g2, e⟩ := Option.map_eq_some_iff.mp e
    cases e
    refine ⟨Z, pn, ρ, r, ρ1, s, g1, fun x H1 p => ?_⟩
    obtain ⟨s1, st, rp⟩ := p.freeze
    cases hv : r.val with
    | tup ys =>
      rw [hv] at rp g2
      cases g2
      obtain ⟨a, vs, rfl, h1, h2⟩ := rp
      exact ⟨a, rfl, .inr ⟨⟨vs, h1.sq⟩, q _ _ _ s1 st feeds_tup ⟨vs, h1, h2⟩⟩⟩
    | lst ys =>
      rw [hv] at rp g2
      cases g2
      obtain ⟨a, vs, rfl, h1, h2⟩ := rp
      exact ⟨a, rfl, .inl ⟨⟨vs, h1.sq⟩, q _ _ _ s1 st feeds_list ⟨vs, h1, h2⟩⟩⟩
    | _ => rw [hv] at g2; cases g2
theorem range_items {vs : List PV} {items : List PV} (h : rangeItems vs = some items) : (∃ n : Int, vs = [.int n] ∧ -(2 ^ 62) ≤ n ∧ n < 2 ^ 62 ∧ items = (List.range n.toNat).map fun k => .int (0 + (k : Nat))) ∨
    ∃ lo hi : Int, vs = [.int lo, .int hi] ∧ (-(2 ^ 62) ≤ lo ∧ lo < 2 ^ 62 ∧ -(2 ^ 62) ≤ hi ∧ hi < 2 ^ 62) ∧ items = (List.range (hi - lo).toNat).map fun k => .int (lo + (k : Nat)) := by
  unfold rangeItems at h
  split at h
  · rename_i n
    split at h
    · rename_i hc
      cases h
      exact .inl ⟨n, rfl, hc.1, hc.2, by simp⟩
    · cases h
  · rename_i lo hi
    split at h
    · rename_i hc
      cases h
      exact .inr ⟨lo, hi, rfl, ⟨hc.1.1, hc.1.2, hc.2.1, hc.2.2⟩, rfl⟩
    · cases h
  · cases h
theorem pi_rng1 {a : Expr} {g : Env → Option (List Bw × Env)} {p pos : Pos} (hg : Gl X "range") (hm : X.mg "range" = none) (ha : PA X [a] (tAs X.K g)) (hs : starEach [a] X.env = [(false, eval a X.env)]) (h1 : ∀ ρ p, g ρ = some p → p.1.length = 1) :
    PI X tg (.Call (.Name "range" p) [a] [] pos) (tI X.K fun ρ => (g ρ).bind fun p => (vals? p.1).bind fun vs => (rangeItems vs).map fun xs => (xs, p.2)) :=
  pi_imp (pi_range1 hg hm ha hs) fun σ H R ⟨Z, pn, ρ, items, ρ', s, e, q⟩ => by
    obtain ⟨⟨bs, ρ1⟩, g1, e⟩ := Option.bind_eq_some_iff.mp e
    obtain ⟨vs, g2, e⟩ := Option.bind_eq_some_iff.mp e
    obtain ⟨xs, g3, e⟩ := Option.map_eq_some_iff.mp e
    cases e
    refine ⟨Z, pn, ρ, bs, ρ1, s, g1, fun ys H1 s1 st at1 => ?_⟩
    have r := at1.reps g2
    rcases range_items g3 with ⟨n, rfl, l1, l2, e2⟩ | ⟨lo, hi, rfl, _, _⟩
    · obtain ⟨y, yr, rfl, hy, hyr⟩ := r
      cases (show yr = [] from hyr)
      exact ⟨n, by rw [show y = .int n from hy], l1, l2, q _ _ _ s1 st (feeds_range e2) True.intro⟩
    · have := h1 ρ _ g1
      have l := at1.length
      have l2 := r.length
      simp at l2 this
      omega
theorem pi_rng2 {a b : Expr} {g : Env → Option (List Bw × Env)} {p pos : Pos} (hg : Gl X "range") (hm : X.mg "range" = none) (ha : PA X [a, b] (tAs X.K g)) (hs : starEach [a, b] X.env = [(false, eval a X.env), (false, eval b X.env)]) (hs2 : starEach [b] X.env = [(false, eval b X.env)])
    (h1 : ∀ ρ p, g ρ = some p → p.1.length = 2) :
    PI X tg (.Call (.Name "range" p) [a, b] [] pos) (tI X.K fun ρ => (g ρ).bind fun p => (vals? p.1).bind fun vs => (rangeItems vs).map fun xs => (xs, p.2)) :=
  pi_imp (pi_range2 hg hm ha hs hs2) fun σ H R ⟨Z, pn, ρ, items, ρ', s, e, q⟩ => by
    obtain ⟨⟨bs, ρ1⟩, g1, e⟩ := Option.bind_eq_some_iff.mp e
    obtain ⟨vs, g2, e⟩ := Option.bind_eq_some_iff.mp e
    obtain ⟨xs, g3, e⟩ := Option.map_eq_some_iff.mp e
    cases e
    refine ⟨Z, pn, ρ, bs, ρ1, s, g1, fun ys H1 s1 st at1 => ?_⟩
    have r := at1.reps g2
    rcases range_items g3 with ⟨n, rfl, l1, l2, e2⟩ | ⟨lo, hi, rfl, c, e2⟩
    · have := h1 ρ _ g1
      have l := at1.length
      have l2 := r.length
      simp at l2 this
      omega
    · obtain ⟨y, yr, rfl, hy, z, zr, rfl, hz, hzr⟩ := r
      cases (show zr = [] from hzr)
      exact ⟨lo, hi, by rw [show y = .int lo from hy, show z = .int hi from hz], c, q _ _ _ s1 st (feeds_range e2) True.intro⟩
end

/-! ### targets -/
/-- the reading of a target: the slots of own alone change -/
def tG (K : PySem.W.Frag) (p : Pt) : TG := fun x σ H Q => ∃ Z pn ρ v ρ', SR K Z pn σ H ρ ∧ Rep K (Wof Z σ ρ) H v x ∧ bindP p v ρ = some ρ' ∧
  ∀ σ', SR K Z pn σ' H ρ' → (∀ b, Wof Z σ' ρ' b → Wof Z σ ρ b) → (∀ j, j ∉ p.slots → σ'[j]? = σ[j]? ∧ ρ'[j]? = ρ[j]?) → Q σ' H
def tGs (K : PySem.W.Frag) (ps : List Pt) : TGs := fun xs σ H Q => ∃ Z pn ρ vs ρ', SR K Z pn σ H ρ ∧ Reps K (Wof Z σ ρ) H vs xs ∧ vs.length = ps.length ∧ bindPs ps vs ρ = some ρ' ∧
  ∀ σ', SR K Z pn σ' H ρ' → (∀ b, Wof Z σ' ρ' b → Wof Z σ ρ b) → (∀ j, j ∉ ptsSlots ps → σ'[j]? = σ[j]? ∧ ρ'[j]? = ρ[j]?) → Q σ' H
theorem put_out {i j : Nat} {r : RV} {ρ ρ' : Env} (h : put i r ρ = some ρ') (n : j ≠ i) : ρ'[j]? = ρ[j]? := by
  unfold put at h
  split at h
  · cases h
  · cases h
    rw [List.getElem?_set_ne n.symm]
  · cases h
section
variable {T : Tab} {G : List PV} {C : Cl} {N : List Str} {sc : Scope} {top : Bool} {X : Cx}
theorem pg_imp {tg : Expr} {t t' : TG} (h : PG X tg t) (q : ∀ x σ H Q, t' x σ H Q → t x σ H Q) : PG X tg t' := ⟨fun pins s σ H v u Q I r hw => h.run pins s σ H v u Q I r (q v σ H Q hw)⟩
theorem pgs_imp {tg : List Expr} {t t' : TGs} (h : PGs X tg t) (q : ∀ x σ H Q, t' x σ H Q → t x σ H Q) : PGs X tg t' := ⟨fun pins s σ H v u Q I r hw => h.run pins s σ H v u Q I r (q v σ H Q hw)⟩
theorem XOk.loc (k : XOk T G C N sc top X) {x : Str} (h : locB top sc x = true) : L2.Loc X.env.scope x ∧ (X.fn x = true ∨ X.env.scope.names.lookup x = some .local) := by
  unfold locB at h
  unfold L2.Loc
  rw [k.hsc]
  split at h
  · rename_i e; exact ⟨.inl e, .inr e⟩
  · rename_i e; exact ⟨.inr e, .inl (k.hfn h x)⟩
  · cases h
theorem assignEach_plain {e : Expr} {es : List Expr} {env : PySem.Env} (h : isStar e = false) : assignEach (e :: es) env = (false, assign e env) :: assignEach es env := by
  cases e <;> first | rfl | (exfalso; simp [isStar] at h)
theorem okPs_len : ∀ (ps : List Pt) (xs : List Expr) (env : PySem.Env), okPs N sc top ps xs = true → (assignEach xs env).length = ps.length ∧ (assignEach xs env).findIdx? (·.1) = none ∧ xs.length = ps.length
  | [], xs, env, h => by
    cases xs with
    | nil => exact ⟨rfl, rfl, rfl⟩
    | cons _ _ => simp [okPs] at h
  | p :: ps, xs, env, h => by
    cases xs with
    | nil => simp [okPs] at h
    | cons x r =>
      simp only [okPs, Bool.and_eq_true, Bool.not_eq_true'] at h
      obtain ⟨h1, h2, h3⟩ := okPs_len ps r env h.2
      rw [assignEach_plain h.1.1]
      refine ⟨by rw [List.length_cons, h1]; rfl, ?_, by rw [List.length_cons, h3]; rfl⟩
      rw [List.findIdx?_cons]
      simp [h2]
mutual
theorem pg_any (k : XOk T G C N sc top X) : ∀ (p : Pt) (e : Expr), okP N sc top p e = true → PG X e (tG X.K p)
  | .name i, e, h => by
    cases e with
    | Name x pos =>
      simp only [okP, Bool.and_eq_true] at h
      obtain ⟨l, f⟩ := k.loc h.2
      refine pg_imp (pg_name (by rw [k.hN]; exact k.hnd) (by rw [k.hN]; simpa using h.1) l f) fun x σ H Q ⟨Z, pn, ρ, v, ρ', s, r, e, q⟩ => ?_
      have pe : PostE X.K Z pn σ H ρ (.fz v) ρ x H := ⟨s, Stp.refl, r⟩
      obtain ⟨s2, st⟩ := pe.put e
      refine q _ s2 (fun b hb => ?_) fun j hj => ?_
      · by_cases hn : Wof Z σ ρ b
        · exact hn
        · cases ho : H b with
          | none => exact absurd ho (s2.wt b hb)
          | some o => exact absurd hb (st.ext b o ho hn).2
      · have n : j ≠ i := fun z => hj (by rw [z]; exact List.mem_cons_self)
        exact ⟨List.getElem?_set_ne n.symm, put_out (r := .fz v) e n⟩
    | _ => simp [okP] at h
  | .tup ps, e, h => by
    cases e with
    | Tuple xs kk pos =>
      have h : okPs N sc top ps xs = true := h
      obtain ⟨h1, h2, h3⟩ := okPs_len ps xs X.env h
      refine pg_imp (pg_tup (n := ps.length) k.calm (pgs_any k ps xs h) h1 h2) fun x σ H Q ⟨Z, pn, ρ, v, ρ', s, r, e, q⟩ => ?_
      cases v with
      | tup ys =>
        have e : (if ys.length = ps.length then bindPs ps ys ρ else none) = some ρ' := e
        split at e
        · rename_i hl
          obtain ⟨a, vs, rfl, g1, g2⟩ := r
          exact ⟨a, vs, rfl, g1.sq, by rw [g2.length]; exact hl, Z, pn, ρ, ys, ρ', s, g2, hl, e, q⟩
        · cases e
      | _ => cases e
    | _ => simp [okP] at h
theorem pgs_any (k : XOk T G C N sc top X) : ∀ (ps : List Pt) (es : List Expr), okPs N sc top ps es = true → PGs X es (tGs X.K ps)
  | [], es, h => by
    cases es with
    | nil =>
      refine pgs_imp pgs_nil fun xs σ H Q ⟨Z, pn, ρ, vs, ρ', s, r, hl, e, q⟩ => ?_
      cases (show vs = [] from List.length_eq_zero_iff.mp hl)
      cases e
      exact ⟨r, q σ s (fun _ h => h) fun j _ => ⟨rfl, rfl⟩⟩
    | cons _ _ => simp [okPs] at h
  | p :: ps, es, h => by
    cases es with
    | nil => simp [okPs] at h
    | cons x r =>
      simp only [okPs, Bool.and_eq_true, Bool.not_eq_true'] at h
      refine pgs_imp (pgs_cons (pg_any k p x h.1.2) (pgs_any k ps r h.2) (by rw [assignEach_plain h.1.1]; rfl)) fun xs σ H Q ⟨Z, pn, ρ, vs, ρ', s, rp, hl, e, q⟩ => ?_
      cases vs with
      | nil => simp at hl
      | cons v vs =>
        obtain ⟨y, yr, rfl, g1, g2⟩ := rp
        obtain ⟨ρ1, e1, e2⟩ := Option.bind_eq_some_iff.mp (show (bindP p v ρ).bind (fun ρ1 => bindPs ps vs ρ1) = some ρ' from e)
        refine ⟨y, yr, rfl, Z, pn, ρ, v, ρ1, s, g1, e1, fun σ1 s1 w1 o1 => ⟨Z, pn, ρ1, vs, ρ', s1, g2.ext (Ext.less w1), by simpa using hl, e2, fun σ2 s2 w2 o2 => ?_⟩⟩
        refine q σ2 s2 (fun b hb => w1 b (w2 b hb)) fun j hj => ?_
        have hj : j ∉ p.slots ++ ptsSlots ps := hj
        rw [List.mem_append, not_or] at hj
        exact ⟨(o2 j hj.2).1.trans (o1 j hj.1).1, (o2 j hj.2).2.trans (o1 j hj.1).2⟩
end
end
end EV
set_option Elab.async false
set_option linter.all false
set_option maxRecDepth 100000
namespace EV
open PySem PySem.Spec PyProof.Rows L2
section
variable {K : PySem.W.Frag} {Z Zn : AS} {pn : Nat → Option Addr} {σ σ' : L2.St} {H H' H1 : Hp} {ρ ρ' ρ1 ρF : Env} {own : List Nat}
theorem wipe_len (ρ : Env) : ∀ own : List Nat, (wipe ρ own).length = ρ.length
  | [] => rfl
  | v :: vs => by unfold wipe; rw [List.length_set, wipe_len ρ vs]
theorem wipe_off {i : Nat} : ∀ {own : List Nat}, i ∉ own → (wipe ρ own)[i]? = ρ[i]?
  | [], _ => rfl
  | v :: vs, h => by
    unfold wipe
    rw [List.getElem?_set_ne (fun z => h (by rw [z]; exact List.mem_cons_self)), wipe_off fun z => h (List.mem_cons_of_mem _ z)]
theorem wipe_in {i : Nat} : ∀ {own : List Nat}, i ∈ own → i < ρ.length → (wipe ρ own)[i]? = some .un
  | v :: vs, h, hl => by
    unfold wipe
    by_cases e : v = i
    · subst e
      exact List.getElem?_set_self (by rw [wipe_len]; exact hl)
    · rw [List.getElem?_set_ne e]
      refine wipe_in ?_ hl
      rcases List.mem_cons.mp h with z | z
      · exact absurd z.symm e
      · exact z
theorem back_len (ρ0 ρ : Env) : ∀ own : List Nat, (back ρ0 ρ own).length = ρ.length
  | [] => rfl
  | v :: vs => by unfold back; rw [List.length_set, back_len ρ0 ρ vs]
theorem back_off {ρ0 : Env} {i : Nat} : ∀ {own : List Nat}, i ∉ own → (back ρ0 ρ own)[i]? = ρ[i]?
  | [], _ => rfl
  | v :: vs, h => by
    unfold back
    rw [List.getElem?_set_ne (fun z => h (by rw [z]; exact List.mem_cons_self)), back_off fun z => h (List.mem_cons_of_mem _ z)]
theorem back_in {ρ0 : Env} {i : Nat} : ∀ {own : List Nat}, i ∈ own → i < ρ.length → (back ρ0 ρ own)[i]? = some (ρ0.getD i .un)
  | v :: vs, h, hl => by
    unfold back
    by_cases e : v = i
    · subst e
      exact List.getElem?_set_self (by rw [back_len]; exact hl)
    · rw [List.getElem?_set_ne e]
      refine back_in ?_ hl
      rcases List.mem_cons.mp h with z | z
      · exact absurd z.symm e
      · exact z
theorem l2wipe_off {i : Nat} : ∀ {own : List Nat}, i ∉ own → (L2.wipe σ own)[i]? = σ[i]?
  | [], _ => rfl
  | v :: vs, h => by
    unfold L2.wipe
    rw [List.getElem?_set_ne (fun z => h (by rw [z]; exact List.mem_cons_self)), l2wipe_off fun z => h (List.mem_cons_of_mem _ z)]
theorem l2wipe_in {i : Nat} : ∀ {own : List Nat}, i ∈ own → i < σ.length → (L2.wipe σ own)[i]? = some none
  | v :: vs, h, hl => by
    unfold L2.wipe
    by_cases e : v = i
    · subst e
      exact List.getElem?_set_self (by rw [L2.wipe_length]; exact hl)
    · rw [List.getElem?_set_ne e]
      refine l2wipe_in ?_ hl
      rcases List.mem_cons.mp h with z | z
      · exact absurd z.symm e
      · exact z
theorem l2wipe_congr (hl : σ.length = σ'.length) (h : ∀ j, j ∉ own → σ'[j]? = σ[j]?) : L2.wipe σ' own = L2.wipe σ own := by
  apply List.ext_getElem?
  intro j
  by_cases hj : j ∈ own
  · by_cases hlt : j < σ.length
    · rw [l2wipe_in hj hlt, l2wipe_in hj (by omega)]
    · rw [List.getElem?_eq_none (by rw [L2.wipe_length]; omega), List.getElem?_eq_none (by rw [L2.wipe_length]; omega)]
  · rw [l2wipe_off hj, l2wipe_off hj, h j hj]
theorem l2wipe_twice : L2.wipe (L2.wipe σ own) own = L2.wipe σ own := l2wipe_congr (by rw [L2.wipe_length]) fun j hj => l2wipe_off hj
theorem SR.wipe (s : SR K Z pn σ H ρ) : ∀ own : List Nat, SR K Z pn (L2.wipe σ own) H (EV.wipe ρ own) ∧ ∀ b, Wof Z (L2.wipe σ own) (EV.wipe ρ own) b → Wof Z σ ρ b
  | [] => ⟨s, fun _ h => h⟩
  | v :: vs => by
    obtain ⟨s1, w1⟩ := SR.wipe s vs
    obtain ⟨s2, w2⟩ := s1.setUn (i := v) (y := none)
    exact ⟨s2, fun b h => w1 b (w2 b h)⟩
theorem ownFree_not (h : ownFree ρ own = true) {i : Nat} {v : PV} (hi : i ∈ own) : ¬ IsOw ρ i v := fun z => by
  have := List.all_eq_true.mp h i hi
  rcases z with z | z
  · rw [z] at this; cases this
  · rw [z] at this; cases this
theorem wof_wipe (s : SR K Z pn σ H ρ) (hf : ownFree ρ own = true) : ∀ b, Wof Z σ ρ b → Wof Z (L2.wipe σ own) (EV.wipe ρ own) b := fun b h => by
  rcases h with h | ⟨i, v, h1, h2⟩
  · exact .inl h
  · have hi : i ∉ own := fun z => ownFree_not hf z h1
    refine .inr ⟨i, v, ?_, by rw [l2wipe_off hi]; exact h2⟩
    rcases h1 with h1 | h1
    · exact .inl (by rw [wipe_off hi]; exact h1)
    · exact .inr (by rw [wipe_off hi]; exact h1)
/-- a forbidden cell changes -/
theorem SR.forbid {D : Addr} {o : HO} (s : SR K Z pn σ H ρ) (hD : Z D) : SR K Z pn σ (upd H D o) ρ ∧ Ext (Wof Z σ ρ) (Wof Z σ ρ) H (upd H D o) := by
  have e : Ext (Wof Z σ ρ) (Wof Z σ ρ) H (upd H D o) := fun b u q n => ⟨by rw [upd_ne (fun z => n (by rw [z]; exact .inl hD))]; exact q, n⟩
  refine ⟨⟨s.len, fun a h => ?_, fun i v h => ?_, fun i v h => ?_, s.inj, s.pins⟩, e⟩
  · by_cases q : a = D
    · rw [q, upd_same]; exact fun z => nomatch z
    · rw [upd_ne q]; exact s.zt a h
  · obtain ⟨x, e1, r⟩ := s.fz i v h
    exact ⟨x, e1, r.ext e⟩
  · obtain ⟨a, e1, nz, o'⟩ := s.ow i v h
    exact ⟨a, e1, nz, o'.ext e (upd_ne fun z => nz (z ▸ hD))⟩
/-- the slots of the def again -/
theorem SR.back (s1 : SR K Z pn σ H1 ρ1) (hf : ownFree ρ1 own = true) (sF : SR K Zn pn (L2.wipe σ own) H ρF) (e : Ext (Wof Z σ ρ1) (Wof Zn (L2.wipe σ own) ρF) H1 H) :
    SR K Zn pn σ H (EV.back ρ1 ρF own) ∧ ∀ b, Wof Zn σ (EV.back ρ1 ρF own) b ↔ Wof Zn (L2.wipe σ own) ρF b := by
  have lF : ρF.length = σ.length := by rw [← sF.len, L2.wipe_length]
  have in1 : ∀ i, i ∈ own → ∀ {sl : Slot}, (EV.back ρ1 ρF own)[i]? = some sl → ρ1.getD i .un = sl ∧ i < ρF.length := fun i hi {sl} h => by
    have hl : i < ρF.length := by have := lt_of_get h; rwa [back_len] at this
    rw [back_in hi hl] at h
    exact ⟨Option.some.inj h, hl⟩
  have owF : ∀ (i : Nat) (v : PV), IsOw ρF i v → i ∉ own := fun i v h hi => by
    obtain ⟨a, ea, _⟩ := sF.ow i v h
    rw [l2wipe_in hi (by rw [← lF]; rcases h with h | h <;> exact lt_of_get h)] at ea
    cases ea
  have owB : ∀ (i : Nat) (v : PV), IsOw (EV.back ρ1 ρF own) i v ↔ IsOw ρF i v := fun i v => by
    by_cases hi : i ∈ own
    · constructor
      · intro h
        have : ∀ sl, (EV.back ρ1 ρF own)[i]? = some sl → (sl = .ow v ∨ sl = .pn v) → False := fun sl h1 h2 => by
          obtain ⟨h3, h4⟩ := in1 i hi h1
          have hlt : i < ρ1.length := by rw [← s1.len, ← lF]; exact h4
          have h5 : ρ1[i]? = some sl := by
            rw [List.getElem?_eq_getElem hlt, ← h3, List.getD_eq_getElem?_getD, List.getElem?_eq_getElem hlt]; rfl
          rcases h2 with rfl | rfl
          · exact ownFree_not hf hi (.inl h5)
          · exact ownFree_not hf hi (.inr h5)
        rcases h with h | h
        · exact (this _ h (.inl rfl)).elim
        · exact (this _ h (.inr rfl)).elim
      · intro h
        exact absurd hi (owF i v h)
    · unfold IsOw
      rw [back_off hi]
  have wi : ∀ b, Wof Zn σ (EV.back ρ1 ρF own) b ↔ Wof Zn (L2.wipe σ own) ρF b := fun b => by
    constructor
    · rintro (h | ⟨i, v, h1, h2⟩)
      · exact .inl h
      · have h1 := (owB i v).mp h1
        exact .inr ⟨i, v, h1, by rw [l2wipe_off (owF i v h1)]; exact h2⟩
    · rintro (h | ⟨i, v, h1, h2⟩)
      · exact .inl h
      · exact .inr ⟨i, v, (owB i v).mpr h1, by rw [l2wipe_off (owF i v h1)] at h2; exact h2⟩
  refine ⟨⟨by rw [back_len]; exact lF.symm, sF.zt, fun i v h => ?_, fun i v h => ?_, fun i j a v w h1 h2 e1 e2 => ?_, fun i v a h e1 => ?_⟩, wi⟩
  · by_cases hi : i ∈ own
    · obtain ⟨h3, h4⟩ := in1 i hi h
      have hlt : i < ρ1.length := by rw [← s1.len, ← lF]; exact h4
      have h5 : ρ1[i]? = some (.fz v) := by
        rw [List.getElem?_eq_getElem hlt, ← h3, List.getD_eq_getElem?_getD, List.getElem?_eq_getElem hlt]; rfl
      obtain ⟨x, ex, r⟩ := s1.fz i v h5
      exact ⟨x, ex, Rep.iff wi (r.ext e)⟩
    · rw [back_off hi] at h
      obtain ⟨x, ex, r⟩ := sF.fz i v h
      exact ⟨x, by rw [l2wipe_off hi] at ex; exact ex, Rep.iff wi r⟩
  · have h := (owB i v).mp h
    obtain ⟨a, ea, nz, o⟩ := sF.ow i v h
    exact ⟨a, by rw [l2wipe_off (owF i v h)] at ea; exact ea, nz, o.iff wi⟩
  · have h1 := (owB i v).mp h1
    have h2 := (owB j w).mp h2
    exact sF.inj i j a v w h1 h2 (by rw [l2wipe_off (owF i v h1)]; exact e1) (by rw [l2wipe_off (owF j w h2)]; exact e2)
  · have hp : IsOw (EV.back ρ1 ρF own) i v := .inr h
    have hF := (owB i v).mp hp
    have hi := owF i v hF
    rw [back_off hi] at h
    exact sF.pins i v a h (by rw [l2wipe_off hi]; exact e1)
end

theorem put_len {i : Nat} {r : RV} {ρ ρ' : Env} (h : put i r ρ = some ρ') : ρ'.length = ρ.length := by
  unfold put at h
  split at h
  · cases h
  · cases h
    exact List.length_set
  · cases h
mutual
theorem bindP_len : ∀ {p : Pt} {v : PV} {ρ ρ' : Env}, bindP p v ρ = some ρ' → ρ'.length = ρ.length
  | .name i, v, ρ, ρ', h => put_len (r := .fz v) h
  | .tup ps, v, ρ, ρ', h => by
    cases v with
    | tup xs =>
      have h : (if xs.length = ps.length then bindPs ps xs ρ else none) = some ρ' := h
      split at h
      · exact bindPs_len h
      · cases h
    | _ => cases h
theorem bindPs_len : ∀ {ps : List Pt} {vs : List PV} {ρ ρ' : Env}, bindPs ps vs ρ = some ρ' → ρ'.length = ρ.length
  | [], vs, ρ, ρ', h => by cases h; rfl
  | p :: ps, [], ρ, ρ', h => by cases h
  | p :: ps, v :: vs, ρ, ρ', h => by
    obtain ⟨ρ1, e1, e2⟩ := Option.bind_eq_some_iff.mp (show (bindP p v ρ).bind (fun ρ1 => bindPs ps vs ρ1) = some ρ' from h)
    rw [bindPs_len e2, bindP_len e1]
end
/-- a turn of a comprehension -/
def cTurn (pt : Pt) (gt : Env → Option (Bool × Env)) (ge : Env → Option (RV × Env)) (own : List Nat) : PV → Env → Option (Option PV × Env) := fun x ρ1 => (bindP pt x ρ1).bind fun ρ2 => (gt ρ2).bind fun t =>
  if t.1 then (ge t.2).map fun y => (some y.1.val, wipe y.2 own) else some (none, wipe t.2 own)
theorem lc_rd {K : PySem.W.Frag} {gi : Env → Option (List PV × Env)} {gt : Env → Option (Bool × Env)} {ge : Env → Option (RV × Env)} {pt : Pt} {own : List Nat} (hsub : ∀ j ∈ pt.slots, j ∈ own) (σ : L2.St) (H : Hp) (Q : VK)
    (h : tR K (fun ρ => (gi ρ).bind fun p => if ownFree p.2 own then (compLoop (cTurn pt gt ge own) p.1 (wipe p.2 own) []).map fun q => (.fr (.lst q.1), back p.2 q.2 own) else none) σ H Q) :
    tLc (tI K gi) (tG K pt) (tT K gt) (tR K ge) own σ H Q := by
  obtain ⟨Z, pn, ρ, r, ρ', s, e, q⟩ := h
  obtain ⟨⟨items, ρ1⟩, g1, e⟩ := Option.bind_eq_some_iff.mp e
  have e : (if ownFree ρ1 own = true then (compLoop (cTurn pt gt ge own) items (wipe ρ1 own) []).map fun q => (RV.fr (.lst q.1), back ρ1 q.2 own) else none) = some (r, ρ') := e
  split at e
  · rename_i hf
    obtain ⟨⟨final, ρF⟩, g2, e⟩ := Option.map_eq_some_iff.mp e
    cases e
    refine ⟨Z, pn, ρ, items, ρ1, s, g1, fun J src H1 s1 st1 fd sr1 D hD => ?_⟩
    have hHD : ∀ b o, H1 b = some o → upd H1 D (.lst []) b = some o := upd_keeps hD
    obtain ⟨sw, ww⟩ := s1.wipe own
    have wiW : ∀ b, Wof Z (L2.wipe σ own) (wipe ρ1 own) b ↔ Wof Z σ ρ1 b := fun b => ⟨ww b, wof_wipe s1 hf b⟩
    have sD := sw.more (a := D) (H' := upd H1 D (.lst [])) hD (by rw [upd_same]; exact fun z => nomatch z) hHD
    have e0 : Ext (Wof Z σ ρ1) (Wof (plus Z D) (L2.wipe σ own) (wipe ρ1 own)) H1 (upd H1 D (.lst [])) := fun b o q n => ⟨hHD b o q, fun z => by
      rcases z.of_plus with z | z
      · exact n ((wiW b).mp z)
      · rw [z, hD] at q; cases q⟩
    refine ⟨fun i m H => m = items.length - i ∧ i ≤ items.length ∧ ∃ ρi acc accV, compLoop (cTurn pt gt ge own) (items.drop i) ρi acc = some (final, ρF) ∧ SR K (plus Z D) pn (L2.wipe σ own) H ρi ∧
      Ext (Wof Z σ ρ1) (Wof (plus Z D) (L2.wipe σ own) ρi) H1 H ∧ (∀ b, Z b → H b = H1 b) ∧ H D = some (.lst accV) ∧ Reps K (Wof (plus Z D) (L2.wipe σ own) ρi) H acc accV ∧ src (Wof (plus Z D) (L2.wipe σ own) ρi) H,
      ⟨items.length, rfl, Nat.zero_le _, wipe ρ1 own, [], [], g2, sD, e0, fun b hb => upd_ne fun z => by rw [z] at hb; exact s1.zt D hb hD, upd_same, rfl, fd.ext _ _ _ _ e0 sr1⟩, ?_⟩
    rintro i m H2 ⟨rfl, hi, ρi, acc, accV, g3, s2, e2, z2, hD2, ra, sr2⟩
    by_cases hlt : i < items.length
    · right
      refine ⟨fd.go _ i H2 sr2 hlt, fun H' => i + 1 ≤ items.length ∧ ∃ ρi acc accV, compLoop (cTurn pt gt ge own) (items.drop (i + 1)) ρi acc = some (final, ρF) ∧ SR K (plus Z D) pn (L2.wipe σ own) H' ρi ∧
        Ext (Wof Z σ ρ1) (Wof (plus Z D) (L2.wipe σ own) ρi) H1 H' ∧ (∀ b, Z b → H' b = H1 b) ∧ H' D = some (.lst accV) ∧ Reps K (Wof (plus Z D) (L2.wipe σ own) ρi) H' acc accV ∧ src (Wof (plus Z D) (L2.wipe σ own) ρi) H', ?_, ?_⟩
      · rintro H' ⟨h1, h2⟩
        exact ⟨items.length - (i + 1), by omega, rfl, h1, h2⟩
      · intro x H3 hy
        have hv : items[i]? = some items[i] := List.getElem?_eq_getElem hlt
        have hdrop : items.drop i = items[i] :: items.drop (i + 1) := List.drop_eq_getElem_cons hlt
        rw [hdrop] at g3
        obtain ⟨⟨oy, ρn⟩, t1, g3⟩ := Option.bind_eq_some_iff.mp (show (cTurn pt gt ge own items[i] ρi).bind _ = some (final, ρF) from g3)
        obtain ⟨ρ2, b1, t1⟩ := Option.bind_eq_some_iff.mp t1
        obtain ⟨⟨tb, ρ3⟩, b2, t1⟩ := Option.bind_eq_some_iff.mp t1
        obtain ⟨s3, st3, rx, keep3⟩ := fd.yld _ _ _ _ _ i items[i] x H3 sr2 s2 hv hy
        have ra3 := ra.ext st3.ext
        have sr3 := fd.ext _ _ _ _ st3.ext sr2
        have hD3 : H3 D = some (.lst accV) := keep3 D _ hD2
        refine ⟨plus Z D, pn, ρi, items[i], ρ2, s3, rx, b1, fun σ2 s4 w4 o4 => ⟨?_, ?_⟩⟩
        · have := l2wipe_congr (own := own) (σ := L2.wipe σ own) (σ' := σ2) (by rw [s3.len, s4.len]; exact (bindP_len b1).symm) fun j hj => (o4 j fun z => hj (hsub j z)).1
          rw [this, l2wipe_twice]
        · have hw2 : L2.wipe σ2 own = L2.wipe σ own := by
            have := l2wipe_congr (own := own) (σ := L2.wipe σ own) (σ' := σ2) (by rw [s3.len, s4.len]; exact (bindP_len b1).symm) fun j hj => (o4 j fun z => hj (hsub j z)).1
            rw [this, l2wipe_twice]
          refine ⟨plus Z D, pn, ρ2, tb, ρ3, s4, b2, fun H4 s5 st5 => ?_⟩
          have e5 : Ext (Wof (plus Z D) (L2.wipe σ own) ρi) (Wof (plus Z D) σ2 ρ3) H3 H4 := (Ext.less w4).trans st5.ext
          have hD4 : H4 D = some (.lst accV) := by rw [st5.zk D (.inr rfl)]; exact hD3
          have z4 : ∀ b, Z b → H4 b = H1 b := fun b hb => by rw [st5.zk b (.inl hb), st3.zk b (.inl hb)]; exact z2 b hb
          cases tb with
          | false =>
            simp only [Bool.false_eq_true, if_false] at t1 ⊢
            cases t1
            obtain ⟨s6, w6⟩ := s5.wipe own
            rw [hw2] at s6 w6
            have e6 : Ext (Wof (plus Z D) σ2 ρ3) (Wof (plus Z D) (L2.wipe σ own) (wipe ρ3 own)) H4 H4 := Ext.less w6
            exact ⟨hlt, wipe ρ3 own, acc, accV, g3, s6, e2.trans (st3.ext.trans (e5.trans e6)), z4, hD4, (ra3.ext e5).ext e6, fd.ext _ _ _ _ e6 (fd.ext _ _ _ _ e5 sr3)⟩
          | true =>
            simp only [if_true] at t1 ⊢
            obtain ⟨⟨ry, ρ4⟩, b3, t1⟩ := Option.map_eq_some_iff.mp t1
            cases t1
            refine ⟨plus Z D, pn, ρ3, ry, ρ4, s5, b3, fun y H5 py => ?_⟩
            obtain ⟨s6, st6, ry6⟩ := py.freeze
            have g3 : (if acc.length < LIM then compLoop (cTurn pt gt ge own) (items.drop (i + 1)) (wipe ρ4 own) (acc ++ [ry.val]) else none) = some (final, ρF) := g3
            split at g3
            · rename_i hz
              have ra5 := (ra3.ext e5).ext st6.ext
              have hD5 : H5 D = some (.lst accV) := by rw [st6.zk D (.inr rfl)]; exact hD4
              refine ⟨accV, hD5, by rw [ra5.length, ← LIM_eq]; exact hz, hlt, wipe ρ4 own, acc ++ [ry.val], accV ++ [y], g3, ?_⟩
              obtain ⟨s7, e7⟩ := s6.forbid (D := D) (o := .lst (accV ++ [y])) (.inr rfl)
              obtain ⟨s8, w8⟩ := s7.wipe own
              rw [hw2] at s8 w8
              have e8 : Ext (Wof (plus Z D) σ2 ρ4) (Wof (plus Z D) (L2.wipe σ own) (wipe ρ4 own)) H5 (upd H5 D (.lst (accV ++ [y]))) := e7.trans (Ext.less w8)
              refine ⟨s8, e2.trans (st3.ext.trans (e5.trans (st6.ext.trans e8))), fun b hb => ?_, upd_same, (ra5.app (Reps.one ry6)).ext e8, fd.ext _ _ _ _ e8 (fd.ext _ _ _ _ st6.ext (fd.ext _ _ _ _ e5 sr3))⟩
              rw [upd_ne (fun z => by rw [z] at hb; exact s1.zt D hb hD), st6.zk b (.inl hb)]
              exact z4 b hb
            · cases g3
    · left
      have hi' : i = items.length := by omega
      subst hi'
      refine ⟨fd.stop _ H2 sr2, ?_⟩
      rw [List.drop_length] at g3
      have g3 : some (acc, ρi) = some (final, ρF) := g3
      cases g3
      obtain ⟨s3, wi3⟩ := s1.back hf s2 e2
      have e3 : Ext (Wof Z σ ρ1) (Wof (plus Z D) σ (back ρ1 ρF own)) H1 H2 := e2.trans (Ext.less fun b hb => (wi3 b).mp hb)
      refine q _ _ ⟨D, rfl, s3, st1.trans ⟨e3, z2⟩, fun z => ?_, accV, hD2, ra.ext (Ext.less fun b hb => (wi3 b).mp hb)⟩
      · rcases z with z | ⟨j, v, h1, h2⟩
        · exact s1.zt D z hD
        · obtain ⟨a, ea, nz, _⟩ := s3.ow j v h1
          rw [h2] at ea
          cases ea
          exact nz (.inr rfl)
  · cases e
end EV
set_option Elab.async false
set_option linter.all false
set_option maxRecDepth 100000
namespace EV
open PySem PySem.Spec PyProof.Rows L2
/-- a list (false) or a tuple (true) -/
def SqK (K : PySem.W.Frag) (k : Bool) (H : Hp) (a : Addr) (xs : List V) : Prop := match k with
  | true => SqT K H a xs
  | false => SqL K H a xs
def IterK (k : Bool) (h : Heap) (it a : Addr) (i : Nat) : Prop := match k with
  | true => h.IsTupleIter it a i
  | false => h.IsListIter it a i
def ItemsK (k : Bool) (h : Heap) (a : Addr) (items : Array Value) : Prop := match k with
  | true => h.IsTuple a items
  | false => h.IsList a items
def iterObj (k : Bool) (a : Addr) : Obj := match k with
  | true => { cls := .type "tuple_iterator", data := .fields #[.ref a, .int 0 0] }
  | false => { cls := .type "list_iterator", data := .fields #[.ref a, .int 0 0] }
theorem begins_k (k : Bool) (a : Addr) (items : Array Value) : Begins (.ref a) (iterObj k a) fun h => ItemsK k h a items := by
  cases k with
  | true => exact begins_tuple a items
  | false => exact begins_list a items
theorem draws_k {prog : Program} {w : World} {A : Around} (k : Bool) (hh : A.handled = none) (it a : Addr) (hne : a ≠ it) (items : Array Value) :
    Draws prog w A it [it, a] items.size (fun i v => items[i]? = some v) (fun i h => IterK k h it a i ∧ ItemsK k h a items) := by
  cases k with
  | true => exact Draws.tuple hh it a hne items
  | false => exact Draws.list hh it a hne items
theorem IterK.obj {k : Bool} {h : Heap} {it a : Addr} {i : Nat} (x : IterK k h it a i) : ∃ o, h.get? it = some o ∧ ∀ v, o.data ≠ .cell v := by
  cases k with
  | true => obtain ⟨o, e, _, d⟩ := x; exact ⟨o, e, fun v q => by rw [d] at q; cases q⟩
  | false => obtain ⟨o, e, _, d⟩ := x; exact ⟨o, e, fun v q => by rw [d] at q; cases q⟩
theorem IterK.at_ {k : Bool} {h h' : Heap} {it a : Addr} {i : Nat} (x : IterK k h it a i) (e : ∀ o, h.get? it = some o → h'.get? it = some o) : IterK k h' it a i := by
  cases k with
  | true => exact Heap.IsTupleIter.at x e
  | false => exact Heap.IsListIter.at x e
theorem IterK.new {k : Bool} {h : Heap} {it a : Addr} (e : h.get? it = some (iterObj k a)) : IterK k h it a 0 := by
  cases k with
  | true => exact ⟨_, e, rfl, rfl⟩
  | false => exact ⟨_, e, rfl, rfl⟩
theorem ItemsK.lt {k : Bool} {h : Heap} {a : Addr} {items : Array Value} (x : ItemsK k h a items) : a < h.objs.size := by
  cases k with
  | true => obtain ⟨_, e, _⟩ := x; exact Heap.lt_size e
  | false => obtain ⟨_, e, _⟩ := x; exact Heap.lt_size e
section
variable {X : Cx} {pins : List (Addr × Obj)} {σ : L2.St} {H : Hp} {s : Shared} {k : Bool} {a : Addr} {xs ys : List V}
theorem inv_sq (I : Inv X pins σ H s) (h : SqK X.K k H a xs) : ∃ its : List Value, Vals xs its ∧ ItemsK k s.heap a its.toArray := by
  cases k with
  | true => obtain ⟨its, r, t, _⟩ := I.tuple h; exact ⟨its, r, t⟩
  | false => obtain ⟨its, r, t, _⟩ := I.list h; exact ⟨its, r, t.isList⟩
theorem inv_sq_inj (I : Inv X pins σ H s) (h : SqK X.K k H a xs) (h' : SqK X.K k H a ys) : xs = ys := by
  cases k with
  | true => exact I.tuple_inj h h'
  | false => exact I.list_inj h h'
end
/-! ### enumerate -/
def IteK (K : PySem.W.Frag) (k : Bool) (a : Addr) : L2.It :=
  ⟨fun i H => ∃ (xs : List V) (x : V), SqK K k H a xs ∧ xs[i]? = some x, fun i H v H' => ∃ T x, v = .ref T ∧ H T = none ∧ H' = upd H T (.tup [.int (i : Nat), x]) ∧ ∀ xs, SqK K k H a xs → xs[i]? = some x, fun i H => ∃ xs : List V, SqK K k H a xs ∧ xs.length = i⟩
theorem turn_enumK {P : Program} {w : World} {K : PySem.W.Frag} {elts : List Expr} {kk : Nat} {tpos : Pos} (k : Bool) (a e it : Addr) :
    Turn P w K (.Tuple elts kk tpos) (IteK K k a) [e, it] e (fun i h => (∃ old, IsEnum h e it ((i : Nat) : Int) old) ∧ IterK k h it a i ∧ e ≠ it ∧ a ≠ it ∧ e ≠ a) where
  mem := by simp
  obj := fun i h st b hb => by
    obtain ⟨⟨old, he⟩, hi, _⟩ := st
    have e' : b = e ∨ b = it := by simpa using hb
    rcases e' with z | z
    · rw [z]; exact ⟨_, he, fun v q => nomatch q⟩
    · rw [z]; exact hi.obj
  keep := fun i h h' st kp => let ⟨⟨old, he⟩, hi, hne⟩ := st; ⟨⟨old, kp e (by simp) _ he⟩, hi.at_ fun o q => kp it (by simp) o q, hne⟩
  item := by
    intro X hP hw hK hc i pins s σ H E I hf st hg
    subst hP hw hK
    obtain ⟨⟨old, he⟩, hit, hne, hna, hea⟩ := st
    obtain ⟨xs, x, hq, hx⟩ := hg
    obtain ⟨its, rv, p⟩ := inv_sq I hq
    obtain ⟨u, hu, ru⟩ := rv.get hx
    have hel : e < s.heap.objs.size := Heap.lt_size he
    have hil : it < s.heap.objs.size := by obtain ⟨o, q, _⟩ := hit.obj; exact Heap.lt_size q
    have hlt : i < its.toArray.size := by
      have := lt_of_get hu
      simpa using this
    refine wpAny_pyNext_enum_itemC (fp := [it, a]) (draws_k (A := X.A.in1) k (I.ok.hd hc) it a hna its.toArray) he ⟨hit, p⟩ hlt hne (by simp [hne, hea]) fun z h' tk hz ho hst' hT hsz hk => ?_
    have ez : z = u := by
      have hz : its.toArray[i]? = some z := hz
      have : its[i]? = some z := by simpa using hz
      rw [hu] at this
      exact (Option.some.inj this).symm
    subst ez
    refine ⟨_, rfl, wpAny_letOwnedTupleGo_enum (s := { s with heap := h', toks := tk + 1 }) ho fun h'' he' sb => ?_⟩
    have hT2 : h''.get? s.heap.objs.size = some { cls := .type "tuple", data := .seq #[.int i tk, z] } := (sb.2 _ (Nat.ne_of_gt hel)).trans hT
    have new : ObjOk X.prog X.w (upd H s.heap.objs.size (.tup [.int (i : Nat), x])) h'' s.heap.objs.size (.tup [.int (i : Nat), x]) :=
      ⟨by show 2 ≤ sizeLine; decide, [.int i tk, z], .cons ⟨_, rfl⟩ (.cons ru .nil), ⟨_, hT2, rfl, _, rfl⟩⟩
    have I1 : Inv X pins σ (upd H s.heap.objs.size (.tup [.int (i : Nat), x])) { s with heap := h'', toks := tk + 1 } :=
      I.turnedNew (ch := [e, it]) (fun b ob hb q => (sb.2 b (fun z => hb (by simp [z]))).trans (hk b ob (fun z => hb (by simp [z])) (fun z => hb (by simp [z])) q)) hf (Nat.le_refl _) new
    refine ⟨.ref s.heap.objs.size, _, I1, rfl, ⟨_, x, rfl, I.hok.fresh (Nat.le_refl _), rfl, fun ys hy => by rw [inv_sq_inj I hy hq]; exact hx⟩, ⟨⟨z, ?_⟩, hst'.1.at_ fun o q => (sb.2 it (Ne.symm hne)).trans q, hne, hna, hea⟩, fun b hb => ?_⟩
    · have e1 : ((i + 1 : Nat) : Int) = (i : Int) + 1 := by omega
      rw [e1]; exact he'
    · have hb' : b < s.heap.objs.size := by
        have e' : b = e ∨ b = it := by simpa using hb
        rcases e' with z | z
        · rw [z]; exact hel
        · rw [z]; exact hil
      rw [upd_ne (Nat.ne_of_lt hb')]
      exact (hf b hb).1
  done := by
    intro X hP hw hK hc i pins s σ H E I hf st hg
    subst hP hw hK
    obtain ⟨⟨old, he⟩, hit, hne, hna, hea⟩ := st
    obtain ⟨xs, hq, hx⟩ := hg
    obtain ⟨its, rv, p⟩ := inv_sq I hq
    obtain ⟨f0, f1, f2, f3, f4, f5⟩ := hf it (by simp)
    have hl : its.toArray.size = i := by rw [List.size_toArray, ← rv.length]; exact hx
    have D := draws_k (prog := X.prog) (w := X.w) (A := X.A.in1) k (I.ok.hd hc) it a hna its.toArray
    rw [hl] at D
    exact wpAny_pyNext_enum_endD D he ⟨hit, p⟩ fun h' eb => ⟨rfl, I.turned (t' := s.toks) (fun b o hb q => eb b o hb q) f0 f1 f3 f4 f5⟩
  self := fun A i s Q E st h => let ⟨⟨_, he⟩, _⟩ := st; wpAny_pyIter_enum he h
def iEnumK (K : PySem.W.Frag) (tl : TE) : TI := fun σ H R => tl σ H fun x H1 => ∃ k a xs, x = .ref a ∧ SqK K k H1 a xs ∧ R (IteK K k a) H1
set_option maxHeartbeats 1000000 in
theorem meets_enumerate_newB1 {v : Value} {o : Obj} {H : Heap → Prop} (B : Begins v o H) :
    Meets (Builtin.«enumerate.__new__» ⟨[.type "enumerate", v], []⟩) (fun _ R s => H s.heap ∧
      R (.ok (.ret (.ref (s.heap.push o).objs.size))) { s with heap := (s.heap.push o).push { cls := .type "enumerate", data := .fields #[.none, .bool false, .ref s.heap.objs.size, rawInt 0, .none, .none] } }) :=
  .of_wp fun prog w A R s h => by
    obtain ⟨hp, g, d, tk, os⟩ := s; obtain ⟨h1, h⟩ := h
    have hsub := sub_enumerate
    have q1 : ∀ {A' : Around} {E : Value → Shared → Prop} {Q : Value → Shared → Prop}, Q (.ref hp.objs.size) ⟨hp.push o, g, d, tk, os⟩ → wpAny (model prog w) A' (pyIter v) Q E ⟨hp, g, d, tk, os⟩ :=
      fun q => B.iter prog w _ _ ⟨hp, g, d, tk, os⟩ _ h1 q
    wp_walk using q1
    refine wpAny_stack_any fun st => wpAny_pure ?_
    split
    · rename_i c _ _ _ _ _
      cases (c == Value.type "enumerate")
      · wp_walk using q1
        exact ⟨_, rfl, h⟩
      · wp_walk using q1
        exact ⟨_, rfl, h⟩
    · wp_walk using q1
      exact ⟨_, rfl, h⟩
theorem call_enumB {prog : Program} {w : World} {A : Around} {E : Value → Shared → Prop} {s : Shared} {v : Value} {o : Obj} {H : Heap → Prop} {Q : Value → Shared → Prop} (B : Begins v o H) (h1 : H s.heap)
    (h : ∀ h', IsEnum h' (s.heap.objs.size + 1) s.heap.objs.size 0 .none → h'.get? s.heap.objs.size = some o → (∀ b o, s.heap.get? b = some o → h'.get? b = some o) → Q (.ref (s.heap.objs.size + 1)) { s with heap := h' }) :
    wpAny (model prog w) A (call (.type "enumerate") [v]) Q E s := by
  refine callType_new F.called_enumerate (by decide) (F.typeCall_enumerate_1 _) (F.newCall_enumerate_1 _) (fun obj => F.args_object_init_2 obj _) F.entry_enumerate_new
    (meets_enumerate_newB1 B) ⟨h1, ?_⟩
  have hz : (s.heap.push o).objs.size = s.heap.objs.size + 1 := Heap.size_push ..
  show _ ∧ _
  rw [hz]
  have he : IsEnum ((s.heap.push o).push { cls := .type "enumerate", data := .fields #[.none, .bool false, .ref s.heap.objs.size, rawInt 0, .none, .none] }) (s.heap.objs.size + 1) s.heap.objs.size 0 .none := by
    have := Heap.get?_push_size (s.heap.push o) (o := { cls := .type "enumerate", data := .fields #[.none, .bool false, .ref s.heap.objs.size, rawInt 0, .none, .none] }) rfl
    rw [hz] at this; exact this
  exact ⟨⟨_, he, rfl⟩, h _ he (Heap.get?_push_of_some _ (Heap.get?_push_size _ B.free)) fun b o x => Heap.get?_push_of_some _ (Heap.get?_push_of_some _ x)⟩
theorem enum_pre {K : PySem.W.Frag} {tl : TE} {σ : L2.St} {H : Hp} {R : L2.It → Hp → Prop} (h : tl σ H fun x H1 => ∃ k a xs, x = .ref a ∧ SqK K k H1 a xs ∧ R (IteK K k a) H1)
    (mono : ∀ Q Q' : VK, (∀ x H, Q x H → Q' x H) → tl σ H Q → tl σ H Q') : tCons tl tNil σ H fun vs H1 => ∃ x, vs = [x] ∧ ∃ k a xs, x = .ref a ∧ SqK K k H1 a xs ∧ R (IteK K k a) H1 :=
  mono _ _ (fun x H q => ⟨x, rfl, q⟩) h
theorem pi_enumK {X : Cx} {e : Expr} {tl : TE} {p pos tpos : Pos} {elts : List Expr} {kk : Nat} (hg : Gl X "enumerate") (hm : X.mg "enumerate" = none) (ha : PE X e tl) (hs : starEach [e] X.env = [(false, eval e X.env)]) (mono : ∀ σ H (Q Q' : VK), (∀ x H, Q x H → Q' x H) → tl σ H Q → tl σ H Q') :
    PI X (.Tuple elts kk tpos) (.Call (.Name "enumerate" p) [e] [] pos) (iEnumK X.K tl) := by
  refine ⟨fun pins s σ H R I h => ?_⟩
  refine Call_ (ld_blt I hg hm boot_enumerate (PyProof.Rows.callWith_type1 (thn ((pa_cons ha pa_nil hs).run pos pins s σ H (fun vs H1 => ∃ x, vs = [x] ∧ ∃ k a xs, x = .ref a ∧ SqK X.K k H1 a xs ∧ R (IteK X.K k a) H1) I (enum_pre h (mono σ H))) fun us s1 ⟨vs, H1, I1, r1, q1⟩ => ?_) hs rfl))
  obtain ⟨x, ex, k, a, xs, ea, hq, q⟩ := q1
  subst ex ea
  cases r1 with
  | cons r rr =>
    cases rr
    cases r
    obtain ⟨its, rv, p'⟩ := inv_sq I1 hq
    have la : a < s1.heap.objs.size := p'.lt
    refine call_enumB (begins_k k a its.toArray) p' fun h' he hit hk => wpAny_pyIter_enum he ?_
    have I2 : Inv X pins σ H1 { s1 with heap := h' } := I1.kept (t' := s1.toks) hk
    refine ⟨s1.heap.objs.size + 1, [s1.heap.objs.size + 1, s1.heap.objs.size], _, _, H1, rfl, I2, turn_enumK k a (s1.heap.objs.size + 1) s1.heap.objs.size, ⟨⟨.none, he⟩, IterK.new hit, Nat.succ_ne_self _, Nat.ne_of_lt la, Nat.ne_of_gt (Nat.lt_succ_of_lt la)⟩, fun b hb => ?_, q⟩
    have e' : b = s1.heap.objs.size + 1 ∨ b = s1.heap.objs.size := by simpa using hb
    have hle : s1.heap.objs.size ≤ b := by
      rcases e' with z | z
      · rw [z]; exact Nat.le_add_right _ _
      · rw [z]; exact Nat.le_refl _
    exact I1.fpOk hle (I1.hok.fresh hle)
/-! ### zip -/
def ItzK (K : PySem.W.Frag) (k1 k2 : Bool) (a b : Addr) : L2.It :=
  ⟨fun i H => ∃ (xs ys : List V) (x y : V), SqK K k1 H a xs ∧ SqK K k2 H b ys ∧ xs[i]? = some x ∧ ys[i]? = some y,
    fun i H v H' => ∃ T x y, v = .ref T ∧ H T = none ∧ H' = upd H T (.tup [x, y]) ∧ (∀ xs, SqK K k1 H a xs → xs[i]? = some x) ∧ ∀ ys, SqK K k2 H b ys → ys[i]? = some y,
    fun i H => ∃ xs ys : List V, SqK K k1 H a xs ∧ SqK K k2 H b ys ∧ i ≤ xs.length ∧ i ≤ ys.length ∧ (i = xs.length ∨ i = ys.length)⟩
theorem turn_zipK {P : Program} {w : World} {K : PySem.W.Frag} {elts : List Expr} {kk : Nat} {tpos : Pos} {a b z TI TO i1 i2 : Addr} (k1 k2 : Bool) (D : ZipSep2 z TI TO i1 i2 [i1, a] [i2, b]) (ha : a ≠ i1) (hb2 : b ≠ i2) :
    Turn P w K (.Tuple elts kk tpos) (ItzK K k1 k2 a b) [z, TI, TO, i1, i2] z (fun i h => IsZip h z TI TO .none ∧ IsTupOf2 h TI (.ref i1) (.ref i2) ∧ (∃ x y, IsTupOf2 h TO x y) ∧ IterK k1 h i1 a i ∧ IterK k2 h i2 b i) where
  mem := by simp
  obj := fun i h st c hc => by
    obtain ⟨hz, hTI, ⟨x, y, hTO⟩, h1, h2⟩ := st
    have e' : c = z ∨ c = TI ∨ c = TO ∨ c = i1 ∨ c = i2 := by simpa using hc
    rcases e' with q | q | q | q | q
    · rw [q]; exact ⟨_, hz, fun v q => nomatch q⟩
    · rw [q]; exact ⟨_, hTI, fun v q => nomatch q⟩
    · rw [q]; exact ⟨_, hTO, fun v q => nomatch q⟩
    · rw [q]; exact h1.obj
    · rw [q]; exact h2.obj
  keep := fun i h h' st k => by
    obtain ⟨hz, hTI, ⟨x, y, hTO⟩, h1, h2⟩ := st
    exact ⟨k z (by simp) _ hz, k TI (by simp) _ hTI, ⟨x, y, k TO (by simp) _ hTO⟩, h1.at_ fun o q => k i1 (by simp) o q, h2.at_ fun o q => k i2 (by simp) o q⟩
  item := by
    intro X hP hw hK hc i pins s σ H E I hf st hg
    subst hP hw hK
    obtain ⟨hz, hTI, ⟨x0, y0, hTO⟩, h1, h2⟩ := st
    obtain ⟨xs, ys, x, y, hqx, hqy, hx, hy⟩ := hg
    obtain ⟨its, rv, p⟩ := inv_sq I hqx
    obtain ⟨its2, rv2, p2⟩ := inv_sq I hqy
    obtain ⟨u, hu, ru⟩ := rv.get hx
    obtain ⟨u2, hu2, ru2⟩ := rv2.get hy
    have hzl : z < s.heap.objs.size := Heap.lt_size hz
    have hlt1 : i < its.toArray.size := by have := lt_of_get hu; simpa using this
    have hlt2 : i < its2.toArray.size := by have := lt_of_get hu2; simpa using this
    have D1 := draws_k (prog := X.prog) (w := X.w) (A := X.A.in1) k1 (I.ok.hd hc) i1 a ha its.toArray
    have D2 := draws_k (prog := X.prog) (w := X.w) (A := X.A.in1) k2 (I.ok.hd hc) i2 b hb2 its2.toArray
    refine wpAny_pyNext_zipD2_item D D1 D2 hz hTI hTO ⟨h1, p⟩ ⟨h2, p2⟩ hlt1 hlt2 fun v1 v2 h' tk q1 q2 z' TO' st1 st2 hT hsz hk => ?_
    have e1 : v1 = u := by
      have q1 : its.toArray[i]? = some v1 := q1
      have : its[i]? = some v1 := by simpa using q1
      rw [hu] at this
      exact (Option.some.inj this).symm
    have e2 : v2 = u2 := by
      have q2 : its2.toArray[i]? = some v2 := q2
      have : its2[i]? = some v2 := by simpa using q2
      rw [hu2] at this
      exact (Option.some.inj this).symm
    subst e1 e2
    refine ⟨_, rfl, wpAny_letOwnedTupleGo_zip (s := { s with heap := h', toks := tk }) z' fun h'' z'' sb => ?_⟩
    have hT2 : h''.get? s.heap.objs.size = some { cls := .type "tuple", data := .seq #[v1, v2] } := (sb.2 _ (Nat.ne_of_gt hzl)).trans hT
    have new : ObjOk X.prog X.w (upd H s.heap.objs.size (.tup [x, y])) h'' s.heap.objs.size (.tup [x, y]) :=
      ⟨by show 2 ≤ sizeLine; decide, [v1, v2], .cons ru (.cons ru2 .nil), ⟨_, hT2, rfl, _, rfl⟩⟩
    have I1 : Inv X pins σ (upd H s.heap.objs.size (.tup [x, y])) { s with heap := h'', toks := tk } :=
      I.turnedNew (ch := [z, TI, TO, i1, i2]) (fun c o hb q => (sb.2 c (fun q' => hb (by simp [q']))).trans (hk c o (fun q' => hb (by simp [q'])) (fun q' => hb (by simp [q'])) (fun q' => hb (by simp [q'])) (fun q' => hb (by simp [q'])) q)) hf (Nat.le_refl _) new
    refine ⟨.ref s.heap.objs.size, _, I1, rfl, ⟨_, x, y, rfl, I.hok.fresh (Nat.le_refl _), rfl, fun l hl => by rw [inv_sq_inj I hl hqx]; exact hx, fun l hl => by rw [inv_sq_inj I hl hqy]; exact hy⟩, ⟨z'', ?_, ⟨v1, v2, ?_⟩, ?_, ?_⟩, fun c hcm => ?_⟩
    · exact (sb.2 _ D.TIz).trans (hk _ _ D.TIz D.TITO D.TIi1 D.TIi2 hTI)
    · exact (sb.2 _ D.TOz).trans TO'
    · exact st1.1.at_ fun o q => (sb.2 _ D.zi1.symm).trans q
    · exact st2.1.at_ fun o q => (sb.2 _ D.zi2.symm).trans q
    · have hlt : c < s.heap.objs.size := by
        have e' : c = z ∨ c = TI ∨ c = TO ∨ c = i1 ∨ c = i2 := by simpa using hcm
        rcases e' with q | q | q | q | q
        · rw [q]; exact hzl
        · rw [q]; exact Heap.lt_size hTI
        · rw [q]; exact Heap.lt_size hTO
        · rw [q]; obtain ⟨_, e1, _⟩ := h1.obj; exact Heap.lt_size e1
        · rw [q]; obtain ⟨_, e2, _⟩ := h2.obj; exact Heap.lt_size e2
      rw [upd_ne (Nat.ne_of_lt hlt)]
      exact (hf c hcm).1
  done := by
    intro X hP hw hK hc i pins s σ H E I hf st hg
    subst hP hw hK
    obtain ⟨hz, hTI, ⟨x0, y0, hTO⟩, h1, h2⟩ := st
    obtain ⟨xs, ys, hqx, hqy, l1, l2, hend⟩ := hg
    obtain ⟨its, rv, p⟩ := inv_sq I hqx
    obtain ⟨its2, rv2, p2⟩ := inv_sq I hqy
    have n1 : its.toArray.size = xs.length := by rw [List.size_toArray, ← rv.length]
    have n2 : its2.toArray.size = ys.length := by rw [List.size_toArray, ← rv2.length]
    have D1 := draws_k (prog := X.prog) (w := X.w) (A := X.A.in1) k1 (I.ok.hd hc) i1 a ha its.toArray
    have D2 := draws_k (prog := X.prog) (w := X.w) (A := X.A.in1) k2 (I.ok.hd hc) i2 b hb2 its2.toArray
    rw [n1] at D1
    rw [n2] at D2
    exact wpAny_pyNext_zipD2_end D D1 D2 hz hTI hTO ⟨h1, p⟩ ⟨h2, p2⟩ l1 l2 hend fun h' tk hk => ⟨rfl, I.turnedL (t' := tk) (ch := [z, TI, TO, i1, i2]) (fun c o hb q =>
      hk c o (fun q' => hb (by simp [q'])) (fun q' => hb (by simp [q'])) (fun q' => hb (by simp [q'])) (fun q' => hb (by simp [q'])) q) hf⟩
  self := fun A i s Q E st h => wpAny_pyIter_zip st.1 h
def iZipK (K : PySem.W.Frag) (ta : TA) : TI := fun σ H R => ta σ H fun vs H1 => ∃ k1 k2 a b xs ys, vs = [.ref a, .ref b] ∧ SqK K k1 H1 a xs ∧ SqK K k2 H1 b ys ∧ R (ItzK K k1 k2 a b) H1
theorem pi_zipK {X : Cx} {e e2 : Expr} {ta : TA} {p pos tpos : Pos} {elts : List Expr} {kk : Nat} (hg : Gl X "zip") (hm : X.mg "zip" = none) (ha : PA X [e, e2] ta)
    (hs : starEach [e, e2] X.env = (false, eval e X.env) :: starEach [e2] X.env) (hpl : (backTo pos (starEach [e2] X.env)).any (·.1) = false) :
    PI X (.Tuple elts kk tpos) (.Call (.Name "zip" p) [e, e2] [] pos) (iZipK X.K ta) := by
  refine ⟨fun pins s σ H R I h => ?_⟩
  refine Call_ (ld_blt I hg hm PyProof.Rows.boot_zip (PyProof.Rows.callWith_type1 (thn (ha.run pos pins s σ H _ I h) fun us s1 ⟨vs, H1, I1, r1, q1⟩ => ?_) hs hpl))
  obtain ⟨k1, k2, a, b, xs, ys, ex, hqx, hqy, q⟩ := q1
  subst ex
  cases r1 with
  | cons r rr =>
    cases rr with
    | cons r' rr =>
      cases rr
      cases r
      cases r'
      obtain ⟨its, rv, p1⟩ := inv_sq I1 hqx
      obtain ⟨its2, rv2, p2⟩ := inv_sq I1 hqy
      have la : a < s1.heap.objs.size := p1.lt
      have lb : b < s1.heap.objs.size := p2.lt
      refine zip_begins2 (begins_k k1 a its.toArray) (begins_k k2 b its2.toArray) p1 p2 fun h' hz hTI hTO h1 h2 hsz hk => wpAny_pyIter_zip hz ?_
      have I2 : Inv X pins σ H1 { s1 with heap := h' } := I1.kept (t' := s1.toks) hk
      refine ⟨s1.heap.objs.size + 4, [s1.heap.objs.size + 4, s1.heap.objs.size + 2, s1.heap.objs.size + 3, s1.heap.objs.size, s1.heap.objs.size + 1], _, _, H1, rfl, I2, turn_zipK k1 k2 (zip_sep2 (fp1 := [a]) (fp2 := [b]) (by simpa using la) (by simpa using lb)) (Nat.ne_of_lt la) (Nat.ne_of_lt (Nat.lt_succ_of_lt lb)), ⟨hz, hTI, ⟨_, _, hTO⟩, IterK.new h1, IterK.new h2⟩, fun c hcm => ?_, q⟩
      have e' : c = s1.heap.objs.size + 4 ∨ c = s1.heap.objs.size + 2 ∨ c = s1.heap.objs.size + 3 ∨ c = s1.heap.objs.size ∨ c = s1.heap.objs.size + 1 := by simpa using hcm
      have hle : s1.heap.objs.size ≤ c := by
        rcases e' with z | z | z | z | z
        · rw [z]; exact Nat.le_add_right _ _
        · rw [z]; exact Nat.le_add_right _ _
        · rw [z]; exact Nat.le_add_right _ _
        · rw [z]; exact Nat.le_refl _
        · rw [z]; exact Nat.le_add_right _ _
      exact I1.fpOk hle (I1.hok.fresh hle)
/-! ### what they feed -/
def SqWK (K : PySem.W.Frag) (k : Bool) (W : AS) (H : Hp) (a : Addr) (vs : List V) : Prop := match k with
  | true => SqTW K W H a vs
  | false => SqLW K W H a vs
section
variable {K : PySem.W.Frag} {k k1 k2 : Bool} {W W' : AS} {H H' : Hp} {a b : Addr} {vs : List V}
theorem SqWK.sq (h : SqWK K k W H a vs) : SqK K k H a vs := by
  cases k with
  | true => exact SqTW.sq h
  | false => exact SqLW.sq h
theorem SqWK.ext (e : Ext W W' H H') (h : SqWK K k W H a vs) : SqWK K k W' H' a vs := by
  cases k with
  | true => exact SqTW.ext e h
  | false => exact SqLW.ext e h
theorem rep_seq {v : PV} {xs : List PV} {x : V} (h : Rep K W H v x) (e : v.seq? = some xs) : ∃ k a vs, x = .ref a ∧ SqWK K k W H a vs ∧ Reps K W H xs vs := by
  cases v with
  | tup ys =>
    cases e
    obtain ⟨a, vs, rfl, h1, h2⟩ := h
    exact ⟨true, a, vs, rfl, h1, h2⟩
  | lst ys =>
    cases e
    obtain ⟨a, vs, rfl, h1, h2⟩ := h
    exact ⟨false, a, vs, rfl, h1, h2⟩
  | _ => cases e
theorem enumItems_get : ∀ (n : Nat) (xs : List PV) (i : Nat), (enumItems n xs)[i]? = xs[i]?.map fun x => .tup [.int (n + i : Nat), x]
  | _, [], i => by simp [enumItems]
  | n, x :: xs, 0 => by simp [enumItems]
  | n, x :: xs, i + 1 => by
    have := enumItems_get (n + 1) xs i
    simp only [enumItems, List.getElem?_cons_succ]
    rw [this]
    have e : n + 1 + i = n + (i + 1) := by omega
    rw [e]
theorem enumItems_len : ∀ (n : Nat) (xs : List PV), (enumItems n xs).length = xs.length
  | _, [] => rfl
  | n, x :: xs => by simp [enumItems, enumItems_len (n + 1) xs]
theorem new_pair {Z : AS} {pn : Nat → Option Addr} {σ : L2.St} {ρ : Env} {T : Addr} {x y : V} {v w : PV} (s : SR K Z pn σ H ρ) (hn : H T = none) (hv : Rep K (Wof Z σ ρ) H v x) (hw : Rep K (Wof Z σ ρ) H w y) :
    SR K Z pn σ (upd H T (.tup [x, y])) ρ ∧ Stp Z (Wof Z σ ρ) (Wof Z σ ρ) H (upd H T (.tup [x, y])) ∧ Rep K (Wof Z σ ρ) (upd H T (.tup [x, y])) (.tup [v, w]) (.ref T) ∧ (∀ b o, H b = some o → upd H T (.tup [x, y]) b = some o) := by
  obtain ⟨h1, h2, h3⟩ := PostE.tup (xs := [v, w]) (vs := [x, y]) s ⟨x, [y], rfl, hv, y, [], rfl, hw, rfl⟩ hn
  exact ⟨h1, h2, h3, upd_keeps hn⟩
theorem feeds_enum {items : List PV} : Feeds K (IteK K k a) (enumItems 0 items) fun W H => ∃ vs, SqWK K k W H a vs ∧ Reps K W H items vs where
  ext := fun W W' H H' e ⟨vs, h1, h2⟩ => ⟨vs, h1.ext e, h2.ext e⟩
  go := fun W i H ⟨vs, h1, h2⟩ hi => by
    rw [enumItems_len] at hi
    obtain ⟨v, e, _⟩ := h2.get (List.getElem?_eq_getElem hi)
    exact ⟨vs, v, h1.sq, e⟩
  stop := fun W H ⟨vs, h1, h2⟩ => ⟨vs, h1.sq, by rw [enumItems_len]; exact h2.length⟩
  yld := fun Z pn σ H ρ i v x H' ⟨vs, h1, h2⟩ s e ⟨T, y, ex, hn, eH, hy⟩ => by
    subst ex eH
    rw [enumItems_get] at e
    obtain ⟨w, e1, e2⟩ := Option.map_eq_some_iff.mp e
    subst e2
    obtain ⟨u, eu, r⟩ := h2.get e1
    have := hy vs h1.sq
    rw [eu] at this
    cases this
    have ei : ((0 + i : Nat) : Int) = (i : Int) := by omega
    rw [ei]
    exact new_pair s hn rfl r
theorem feeds_zip {xs ys : List PV} : Feeds K (ItzK K k1 k2 a b) (List.zipWith (fun x y => .tup [x, y]) xs ys) fun W H => (∃ vs, SqWK K k1 W H a vs ∧ Reps K W H xs vs) ∧ ∃ us, SqWK K k2 W H b us ∧ Reps K W H ys us where
  ext := fun W W' H H' e ⟨⟨vs, h1, h2⟩, us, g1, g2⟩ => ⟨⟨vs, h1.ext e, h2.ext e⟩, us, g1.ext e, g2.ext e⟩
  go := fun W i H ⟨⟨vs, h1, h2⟩, us, g1, g2⟩ hi => by
    rw [List.length_zipWith] at hi
    obtain ⟨v, e, _⟩ := h2.get (List.getElem?_eq_getElem (show i < xs.length by omega))
    obtain ⟨u, e', _⟩ := g2.get (List.getElem?_eq_getElem (show i < ys.length by omega))
    exact ⟨vs, us, v, u, h1.sq, g1.sq, e, e'⟩
  stop := fun W H ⟨⟨vs, h1, h2⟩, us, g1, g2⟩ => by
    refine ⟨vs, us, h1.sq, g1.sq, ?_⟩
    rw [List.length_zipWith, h2.length, g2.length]
    omega
  yld := fun Z pn σ H ρ i v x H' ⟨⟨vs, h1, h2⟩, us, g1, g2⟩ s e ⟨T, y, z, ex, hn, eH, hy, hz⟩ => by
    subst ex eH
    rw [List.getElem?_zipWith] at e
    cases e1 : xs[i]? with
    | none => rw [e1] at e; cases e
    | some p =>
      cases e2 : ys[i]? with
      | none => rw [e1, e2] at e; cases e
      | some q =>
        rw [e1, e2] at e
        cases e
        obtain ⟨u, eu, r⟩ := h2.get e1
        obtain ⟨u', eu', r'⟩ := g2.get e2
        have := hy vs h1.sq
        rw [eu] at this
        cases this
        have := hz us g1.sq
        rw [eu'] at this
        cases this
        exact new_pair s hn r r'
end
theorem tR_mono {K : PySem.W.Frag} {g : Env → Option (RV × Env)} (σ : L2.St) (H : Hp) (Q Q' : VK) (m : ∀ x H, Q x H → Q' x H) (h : tR K g σ H Q) : tR K g σ H Q' := by
  obtain ⟨Z, pn, ρ, r, ρ', s, e, q⟩ := h
  exact ⟨Z, pn, ρ, r, ρ', s, e, fun x H' p => m x H' (q x H' p)⟩
section
variable {X : Cx}
theorem pi_en {l : Expr} {g : Env → Option (RV × Env)} {p pos tpos : Pos} {elts : List Expr} {kk : Nat} (hg : Gl X "enumerate") (hm : X.mg "enumerate" = none) (hl : PE X l (tR X.K g)) (hs : starEach [l] X.env = [(false, eval l X.env)]) :
    PI X (.Tuple elts kk tpos) (.Call (.Name "enumerate" p) [l] [] pos) (tI X.K fun ρ => (g ρ).bind fun p => p.1.val.seq?.map fun xs => (enumItems 0 xs, p.2)) :=
  pi_imp (pi_enumK hg hm hl hs tR_mono) fun σ H R ⟨Z, pn, ρ, items, ρ', s, e, q⟩ => by
    obtain ⟨⟨r, ρ1⟩, g1, e⟩ := Option.bind_eq_some_iff.mp e
    obtain ⟨xs, g2, e⟩ := Option.map_eq_some_iff.mp e
    cases e
    refine ⟨Z, pn, ρ, r, ρ1, s, g1, fun x H1 p => ?_⟩
    obtain ⟨s1, st, rp⟩ := p.freeze
    obtain ⟨k, a, vs, rfl, h1, h2⟩ := rep_seq rp g2
    exact ⟨k, a, vs, rfl, h1.sq, q _ _ _ s1 st feeds_enum ⟨vs, h1, h2⟩⟩
theorem pi_zp {l l' : Expr} {g g' : Env → Option (RV × Env)} {p pos tpos : Pos} {elts : List Expr} {kk : Nat} (hg : Gl X "zip") (hm : X.mg "zip" = none) (hl : PE X l (tR X.K g)) (hl' : PE X l' (tR X.K g'))
    (hs : starEach [l, l'] X.env = (false, eval l X.env) :: starEach [l'] X.env) (hs' : starEach [l'] X.env = [(false, eval l' X.env)]) :
    PI X (.Tuple elts kk tpos) (.Call (.Name "zip" p) [l, l'] [] pos) (tI X.K fun ρ => (g ρ).bind fun p => (g' p.2).bind fun q => p.1.val.seq?.bind fun xs => q.1.val.seq?.map fun ys => (List.zipWith (fun x y => .tup [x, y]) xs ys, q.2)) :=
  pi_imp (pi_zipK hg hm (pa_cons hl (pa_cons hl' pa_nil hs') hs) hs (by rw [hs']; rfl)) fun σ H R ⟨Z, pn, ρ, items, ρ', s, e, q⟩ => by
    obtain ⟨⟨r, ρ1⟩, g1, e⟩ := Option.bind_eq_some_iff.mp e
    obtain ⟨⟨r', ρ2⟩, g2, e⟩ := Option.bind_eq_some_iff.mp e
    obtain ⟨xs, g3, e⟩ := Option.bind_eq_some_iff.mp e
    obtain ⟨ys, g4, e⟩ := Option.map_eq_some_iff.mp e
    cases e
    refine ⟨Z, pn, ρ, r, ρ1, s, g1, fun x H1 p => ⟨Z, pn, ρ1, r', ρ2, (p.freeze).1, g2, fun y H2 p2 => ?_⟩⟩
    obtain ⟨s1, st, rp⟩ := p.freeze
    obtain ⟨s2, st2, rp2⟩ := p2.freeze
    obtain ⟨k1, a, vs, rfl, h1, h2⟩ := rep_seq (rp.ext st2.ext) g3
    obtain ⟨k2, b, us, rfl, h3, h4⟩ := rep_seq rp2 g4
    exact ⟨k1, k2, a, b, vs, us, rfl, h1.sq, h3.sq, q _ _ _ s2 (st.trans st2) feeds_zip ⟨⟨vs, h1, h2⟩, us, h3, h4⟩⟩
end
end EV
set_option Elab.async false
set_option linter.all false
set_option maxRecDepth 100000
namespace EV
open PySem PySem.Spec PyProof.Rows L2
section
variable {K : PySem.W.Frag}
/-! ### readings of the parts -/
theorem ixN_eq (n : Nat) (i : Int) : EV.ixN n i = L2.ixN n i := rfl
theorem sIx_eq (n d : Nat) (o : Option Int) : EV.sIx n d o = HT.sIx n d o := by cases o <;> rfl
theorem cut_reps {W : AS} {H : Hp} {xs : List PV} {vs : List V} (lo hi : Option Int) (h : Reps K W H xs vs) : Reps K W H (cut xs lo hi) (cutV vs lo hi) := by
  unfold cut cutV
  rw [h.length, sIx_eq, sIx_eq]
  exact (h.drop _).take _
/-- a[i] -/
theorem idx_rd {ga : Env → Option (Bw × Env)} {gi : Env → Option (RV × Env)} (σ : L2.St) (H : Hp) (Q : VK)
    (h : tR K (fun ρ => (ga ρ).bind fun p => (gi p.2).bind fun q => (deref p.1 q.2).bind fun x => x.seq?.bind fun xs => q.1.val.int?.bind fun i => (EV.ixN xs.length i).bind fun j => xs[j]?.map fun v => (.fz v, q.2)) σ H Q) :
    tOp (fun x y H Q => rIxL K x y H Q ∨ rIxT K x y H Q) (tB K ga) (tR K gi) σ H Q := by
  obtain ⟨Z, pn, ρ, res, ρ', s, e, q⟩ := h
  obtain ⟨⟨b1, ρ1⟩, g1, e⟩ := Option.bind_eq_some_iff.mp e
  obtain ⟨⟨r2, ρ2⟩, g2, e⟩ := Option.bind_eq_some_iff.mp e
  obtain ⟨v, d1, e⟩ := Option.bind_eq_some_iff.mp e
  obtain ⟨xs, d2, e⟩ := Option.bind_eq_some_iff.mp e
  obtain ⟨i, d3, e⟩ := Option.bind_eq_some_iff.mp e
  obtain ⟨j, d4, e⟩ := Option.bind_eq_some_iff.mp e
  obtain ⟨w, d5, e⟩ := Option.map_eq_some_iff.mp e
  cases e
  refine ⟨Z, pn, ρ, b1, ρ1, s, g1, fun x H1 s1 e1 at1 => ⟨Z, pn, ρ1, r2, ρ2, s1, g2, fun y H2 p2 => ?_⟩⟩
  obtain ⟨s2, e2, r2'⟩ := p2.freeze
  have hy : y = .int i := by
    cases hv : r2.val with
    | int i' => rw [hv] at r2' d3; cases d3; exact r2'
    | _ => rw [hv] at d3; cases d3
  subst hy
  have br := deref_ok s2 (at1.ext e2.ext) d1
  have go : ∀ {a : Addr} {vs : List V}, Reps K (Wof Z σ ρ2) H2 xs vs → ∃ z, atI vs i = some z ∧ Q z H2 := fun {a vs} hr => by
    obtain ⟨z, ez, rz⟩ := hr.get d5
    refine ⟨z, ?_, q z H2 (PostE.pre (e1.trans e2) (PostE.val s2 rz))⟩
    unfold atI
    rw [hr.length, ← ixN_eq, d4]
    exact ez
  cases v with
  | lst ys =>
    cases d2
    obtain ⟨a, vs, rfl, h1, h2⟩ := br
    obtain ⟨z, ez, qz⟩ := go (a := a) h2
    exact .inl ⟨a, vs, i, z, rfl, rfl, h1, ez, qz⟩
  | tup ys =>
    cases d2
    obtain ⟨a, vs, rfl, h1, h2⟩ := br
    obtain ⟨z, ez, qz⟩ := go (a := a) h2
    exact .inr ⟨a, vs, i, z, rfl, rfl, h1.sq, ez, qz⟩
  | _ => cases d2
/-- a slice's part -/
def tP (K : PySem.W.Frag) (g : Env → Option (Option Int × Env)) : TO := fun σ H Q => ∃ Z pn ρ o ρ', SR K Z pn σ H ρ ∧ g ρ = some (o, ρ') ∧
  ∀ H', SR K Z pn σ H' ρ' → Stp Z (Wof Z σ ρ) (Wof Z σ ρ') H H' → Q o H'
theorem noPart_rd (σ : L2.St) (H : Hp) (Q : Option Int → Hp → Prop) (h : tP K (fun ρ => some (none, ρ)) σ H Q) : tNoPart σ H Q := by
  obtain ⟨Z, pn, ρ, o, ρ', s, e, q⟩ := h
  cases e
  exact q H s Stp.refl
theorem part_rd {g : Env → Option (RV × Env)} (σ : L2.St) (H : Hp) (Q : Option Int → Hp → Prop) (h : tP K (fun ρ => (g ρ).bind fun p => p.1.val.int?.map fun i => (some i, p.2)) σ H Q) : tPart (tR K g) σ H Q := by
  obtain ⟨Z, pn, ρ, o, ρ', s, e, q⟩ := h
  obtain ⟨⟨r, ρ1⟩, g1, e⟩ := Option.bind_eq_some_iff.mp e
  obtain ⟨i, d, e⟩ := Option.map_eq_some_iff.mp e
  cases e
  refine ⟨Z, pn, ρ, r, ρ1, s, g1, fun x H1 p => ?_⟩
  obtain ⟨s1, e1, r1⟩ := p.freeze
  cases hv : r.val with
  | int i' => rw [hv] at r1 d; cases d; exact ⟨i, r1, q H1 s1 e1⟩
  | _ => rw [hv] at d; cases d
theorem po_imp {X : Cx} {e : Option Expr} {t t' : TO} (h : PO X e t) (q : ∀ σ H Q, t' σ H Q → t σ H Q) : PO X e t' := ⟨fun pins s σ H Q I hw => h.run pins s σ H Q I (q σ H Q hw)⟩
theorem whole_cut {α : Type} {xs : List α} {lo hi : Option Int} (h : EV.sIx xs.length 0 lo = 0 ∧ EV.sIx xs.length xs.length hi = xs.length) : cut xs lo hi = xs := by
  unfold cut
  rw [h.1, h.2, List.drop_zero, Nat.sub_zero, List.take_length]
theorem slc_rd {ga : Env → Option (Bw × Env)} {gl gh : Env → Option (Option Int × Env)} (σ : L2.St) (H : Hp) (Q : VK)
    (h : tR K (fun ρ => (ga ρ).bind fun p => (gl p.2).bind fun l => (gh l.2).bind fun h => (deref p.1 h.2).bind fun x => match x with
      | .tup xs => some (.fz (.tup (cut xs l.1 h.1)), h.2)
      | .lst xs => some (.fr (.lst (cut xs l.1 h.1)), h.2)
      | _ => none) σ H Q) :
    tSl (fun x lo hi H Q => rSlL K x lo hi H Q ∨ rSlA K x lo hi H Q) (tB K ga) (tP K gl) (tP K gh) σ H Q := by
  obtain ⟨Z, pn, ρ, res, ρ', s, e, q⟩ := h
  obtain ⟨⟨b1, ρ1⟩, g1, e⟩ := Option.bind_eq_some_iff.mp e
  obtain ⟨⟨lo, ρ2⟩, g2, e⟩ := Option.bind_eq_some_iff.mp e
  obtain ⟨⟨hi, ρ3⟩, g3, e⟩ := Option.bind_eq_some_iff.mp e
  obtain ⟨v, d1, e⟩ := Option.bind_eq_some_iff.mp e
  refine ⟨Z, pn, ρ, b1, ρ1, s, g1, fun x H1 s1 e1 at1 => ⟨Z, pn, ρ1, lo, ρ2, s1, g2, fun H2 s2 e2 => ⟨Z, pn, ρ2, hi, ρ3, s2, g3, fun H3 s3 e3 => ?_⟩⟩⟩
  have br := deref_ok s3 (at1.ext (e2.ext.trans e3.ext)) d1
  have e4 := e1.trans (e2.trans e3)
  cases v with
  | lst ys =>
    cases e
    obtain ⟨a, vs, rfl, h1, h2⟩ := br
    exact .inl ⟨a, vs, rfl, h1, fun p hp => q _ _ ((PostE.lst s3 (cut_reps lo hi h2) hp).pre e4)⟩
  | tup ys =>
    cases e
    obtain ⟨a, vs, rfl, h1, h2⟩ := br
    refine .inr ⟨a, vs, rfl, h1.sq, fun hw => ?_, fun _ p hp => q _ _ ((PostE.tup s3 (cut_reps lo hi h2) hp).pre e4)⟩
    have hw' : cut ys lo hi = ys := whole_cut (by rw [← h2.length, sIx_eq, sIx_eq]; exact hw)
    refine q _ _ (PostE.pre e4 ?_)
    show PostE K Z pn σ H3 ρ3 (.fz (.tup (cut ys lo hi))) ρ3 (.ref a) H3
    rw [hw']
    exact post_tup_at s3 h1 h2
  | _ => cases e
theorem rev_rd {ga : Env → Option (Bw × Env)} (σ : L2.St) (H : Hp) (Q : VK)
    (h : tR K (fun ρ => (ga ρ).bind fun p => (deref p.1 p.2).bind fun x => match x with
      | .lst xs => some (.fr (.lst xs.reverse), p.2)
      | _ => none) σ H Q) : tRevL K (tB K ga) σ H Q := by
  obtain ⟨Z, pn, ρ, res, ρ', s, e, q⟩ := h
  obtain ⟨⟨b1, ρ1⟩, g1, e⟩ := Option.bind_eq_some_iff.mp e
  obtain ⟨v, d1, e⟩ := Option.bind_eq_some_iff.mp e
  refine ⟨Z, pn, ρ, b1, ρ1, s, g1, fun x H1 s1 e1 at1 => ?_⟩
  have br := deref_ok s1 at1 d1
  cases v with
  | lst ys =>
    cases e
    obtain ⟨a, vs, rfl, h1, h2⟩ := br
    exact ⟨a, vs, rfl, h1, fun p hp => q _ _ ((PostE.lst s1 h2.rev hp).pre e1)⟩
  | _ => cases e
theorem neg_rd {g : Env → Option (RV × Env)} (σ : L2.St) (H : Hp) (Q : VK) (h : tR K (fun ρ => (g ρ).bind fun p => (p.1.val.int?).map fun i => (.fz (.int (-i)), p.2)) σ H Q) : tUn (rU fun i => .int (-i)) (tR K g) σ H Q := by
  obtain ⟨Z, pn, ρ, o, ρ', s, e, q⟩ := h
  obtain ⟨⟨r, ρ1⟩, g1, e⟩ := Option.bind_eq_some_iff.mp e
  obtain ⟨i, d, e⟩ := Option.map_eq_some_iff.mp e
  cases e
  refine ⟨Z, pn, ρ, r, ρ1, s, g1, fun x H1 p => ?_⟩
  obtain ⟨s1, e1, r1⟩ := p.freeze
  cases hv : r.val with
  | int i' => rw [hv] at r1 d; cases d; exact ⟨i, r1, q _ _ ((post_int s1).pre e1)⟩
  | _ => rw [hv] at d; cases d
theorem cmpF_inv {op : COp} {x y : PV} {r : RV} (h : cmpF op x y = some r) : ∃ k, cmpOp op x y = some k ∧ r = .fz (.bl k) := by
  obtain ⟨k, h1, h2⟩ := Option.map_eq_some_iff.mp h
  exact ⟨k, h1, h2.symm⟩
theorem post_is_bl {Z : AS} {pn : Nat → Option Addr} {σ : L2.St} {H H' : Hp} {ρ ρ' : Env} {k : Bool} {z : V} (p : PostE K Z pn σ H ρ (.fz (.bl k)) ρ' z H') : z = .bl k := p.2.2
theorem chain_rd {r r' : R2} {op op' : COp} {ga gb gc : Env → Option (RV × Env)} (ok : OpOk K r (cmpF op)) (ok' : OpOk K r' (cmpF op')) (σ : L2.St) (H : Hp) (Q : VK)
    (h : tR K (fun ρ => (ga ρ).bind fun p => (gb p.2).bind fun q => (cmpOp op p.1.val q.1.val).bind fun k =>
      if k then (gc q.2).bind fun r => (cmpOp op' q.1.val r.1.val).map fun k' => (.fz (.bl k'), r.2) else some (.fz (.bl false), q.2)) σ H Q) : tChain r r' (tR K ga) (tR K gb) (tR K gc) σ H Q := by
  obtain ⟨Z, pn, ρ, res, ρ', s, e, q⟩ := h
  obtain ⟨⟨r1, ρ1⟩, g1, e⟩ := Option.bind_eq_some_iff.mp e
  obtain ⟨⟨r2, ρ2⟩, g2, e⟩ := Option.bind_eq_some_iff.mp e
  obtain ⟨k, c1, e⟩ := Option.bind_eq_some_iff.mp e
  refine ⟨Z, pn, ρ, r1, ρ1, s, g1, fun x H1 p1 => ⟨Z, pn, ρ1, r2, ρ2, p1.freeze.1, g2, fun y H2 p2 => ?_⟩⟩
  obtain ⟨s1, e1, b1⟩ := p1.freeze
  obtain ⟨s2, e2, b2⟩ := p2.freeze
  refine ok Z pn σ H2 ρ2 x y r1.val r2.val (.fz (.bl k)) _ s2 (b1.ext e2.ext).b b2.b (by unfold cmpF; rw [c1]; rfl) fun z H3 p3 => ?_
  refine ⟨k, post_is_bl p3, ?_⟩
  cases k with
  | false =>
    simp only [Bool.false_eq_true, if_false] at e ⊢
    cases e
    exact q _ _ ((post_bl p3.1).pre ((e1.trans e2).trans p3.2.1))
  | true =>
    simp only [if_true] at e ⊢
    obtain ⟨⟨r3, ρ3⟩, g3, e⟩ := Option.bind_eq_some_iff.mp e
    obtain ⟨k', c2, e⟩ := Option.map_eq_some_iff.mp e
    cases e
    refine ⟨Z, pn, ρ2, r3, ρ3, p3.1, g3, fun w' H4 p4 => ?_⟩
    obtain ⟨s4, e4, b4⟩ := p4.freeze
    refine ok' Z pn σ H4 ρ3 y w' r2.val r3.val (.fz (.bl k')) Q s4 ((b2.ext p3.2.1.ext).ext e4.ext).b b4.b (by unfold cmpF; rw [c2]; rfl) fun z H5 p5 => ?_
    exact q z H5 (PostE.pre ((e1.trans e2).trans (p3.2.1.trans e4)) p5)
/-! ### and, or, not, if-else, as values and as tests -/
def gAnd (ga gb : Env → Option (RV × Env)) : Env → Option (RV × Env) := fun ρ => (ga ρ).bind fun p => match p.1 with
  | .fz (.bl k) => if k then gb p.2 else some (.fz (.bl false), p.2)
  | _ => none
def gOr (ga gb : Env → Option (RV × Env)) : Env → Option (RV × Env) := fun ρ => (ga ρ).bind fun p => match p.1 with
  | .fz (.bl k) => if k then some (.fz (.bl true), p.2) else gb p.2
  | _ => none
theorem bl_inv {α : Type} {r : RV} {f : Bool → Option α} {g : RV → Option α} {y : α} (hg : ∀ r, g r = (match r with | .fz (.bl k) => f k | _ => none)) (h : g r = some y) : ∃ k, r = .fz (.bl k) ∧ f k = some y := by
  rw [hg] at h
  split at h
  · exact ⟨_, rfl, h⟩
  · cases h
theorem and_rd {ga gb : Env → Option (RV × Env)} (σ : L2.St) (H : Hp) (Q : VK) (h : tR K (gAnd ga gb) σ H Q) : tAndV (tR K ga) (tR K gb) σ H Q := by
  obtain ⟨Z, pn, ρ, res, ρ', s, e, q⟩ := h
  obtain ⟨⟨r1, ρ1⟩, g1, e⟩ := Option.bind_eq_some_iff.mp e
  obtain ⟨k, hk, e⟩ := bl_inv (g := fun r => match r with | .fz (.bl k) => if k then gb ρ1 else some (RV.fz (.bl false), ρ1) | _ => none) (f := fun k => if k then gb ρ1 else some (RV.fz (.bl false), ρ1)) (fun r => rfl) e
  have hk : r1 = .fz (.bl k) := hk
  subst hk
  refine ⟨Z, pn, ρ, _, ρ1, s, g1, fun x H1 p1 => ⟨k, post_is_bl p1, ?_⟩⟩
  cases k with
  | true =>
    simp only [if_true] at e ⊢
    exact ⟨Z, pn, ρ1, res, ρ', p1.1, e, fun y H2 p2 => q y H2 (p2.pre p1.2.1)⟩
  | false =>
    simp only [Bool.false_eq_true, if_false] at e ⊢
    cases e
    exact q _ _ ((post_bl p1.1).pre p1.2.1)
theorem or_rd {ga gb : Env → Option (RV × Env)} (σ : L2.St) (H : Hp) (Q : VK) (h : tR K (gOr ga gb) σ H Q) : tOrV (tR K ga) (tR K gb) σ H Q := by
  obtain ⟨Z, pn, ρ, res, ρ', s, e, q⟩ := h
  obtain ⟨⟨r1, ρ1⟩, g1, e⟩ := Option.bind_eq_some_iff.mp e
  obtain ⟨k, hk, e⟩ := bl_inv (g := fun r => match r with | .fz (.bl k) => if k then some (RV.fz (.bl true), ρ1) else gb ρ1 | _ => none) (f := fun k => if k then some (RV.fz (.bl true), ρ1) else gb ρ1) (fun r => rfl) e
  have hk : r1 = .fz (.bl k) := hk
  subst hk
  refine ⟨Z, pn, ρ, _, ρ1, s, g1, fun x H1 p1 => ⟨k, post_is_bl p1, ?_⟩⟩
  cases k with
  | false =>
    simp only [Bool.false_eq_true, if_false] at e ⊢
    exact ⟨Z, pn, ρ1, res, ρ', p1.1, e, fun y H2 p2 => q y H2 (p2.pre p1.2.1)⟩
  | true =>
    simp only [if_true] at e ⊢
    cases e
    exact q _ _ ((post_bl p1.1).pre p1.2.1)
/-- a test's reading from a value's -/
theorem tst_inv {r : Option (RV × Env)} {b : Bool} {ρ' : Env} (h : tst r = some (b, ρ')) : ∃ x, r = some (x, ρ') ∧ isStr x.val = false ∧ truthy x.val = b := by
  obtain ⟨⟨x, ρ1⟩, h1, h2⟩ := Option.bind_eq_some_iff.mp h
  split at h2
  · cases h2
  · rename_i hs
    cases h2
    exact ⟨x, h1, by simpa using hs, rfl⟩
theorem tru_rd {g : Env → Option (RV × Env)} (σ : L2.St) (H : Hp) (Q : Bool → Hp → Prop) (h : tT K (fun ρ => tst (g ρ)) σ H Q) : tR K g σ H fun x H' => ∃ k, TruV K x H' k ∧ Q k H' := by
  obtain ⟨Z, pn, ρ, b, ρ', s, e, q⟩ := h
  obtain ⟨r, e1, hs, ht⟩ := tst_inv e
  refine ⟨Z, pn, ρ, r, ρ', s, e1, fun x H' p => ?_⟩
  obtain ⟨s1, st, rp⟩ := p.freeze
  exact ⟨b, by rw [← ht]; exact truV_rep rp hs, q H' s1 st⟩
theorem notV_rd {g : Env → Option (RV × Env)} (σ : L2.St) (H : Hp) (Q : VK) (h : tR K (fun ρ => (tst (g ρ)).map fun p => (.fz (.bl !p.1), p.2)) σ H Q) : tNotT K (tR K g) σ H Q := by
  obtain ⟨Z, pn, ρ, res, ρ', s, e, q⟩ := h
  obtain ⟨⟨b, ρ1⟩, e1, e⟩ := Option.map_eq_some_iff.mp e
  cases e
  obtain ⟨r, e1, hs, ht⟩ := tst_inv e1
  refine ⟨Z, pn, ρ, r, _, s, e1, fun x H' p => ?_⟩
  obtain ⟨s1, st, rp⟩ := p.freeze
  exact ⟨b, by rw [← ht]; exact truV_rep rp hs, q _ _ ((post_bl s1).pre st)⟩
theorem notT_rd {g : Env → Option (RV × Env)} (σ : L2.St) (H : Hp) (Q : Bool → Hp → Prop) (h : tT K (fun ρ => tst ((tst (g ρ)).map fun p => (.fz (.bl !p.1), p.2))) σ H Q) : tNot (tT K fun ρ => tst (g ρ)) σ H Q := by
  obtain ⟨Z, pn, ρ, b, ρ', s, e, q⟩ := h
  obtain ⟨r, e1, hs, ht⟩ := tst_inv e
  obtain ⟨⟨b1, ρ1⟩, e2, e1⟩ := Option.map_eq_some_iff.mp e1
  cases e1
  refine ⟨Z, pn, ρ, b1, _, s, e2, fun H' s1 st => ?_⟩
  have : b = !b1 := ht.symm
  show Q (!b1) H'
  rw [← this]
  exact q H' s1 st
/-- a comparison as a test -/
theorem test_rd {t : TE} {g : Env → Option (RV × Env)} (h0 : ∀ σ H Q, tR K g σ H Q → t σ H Q) (hb : ∀ ρ r ρ', g ρ = some (r, ρ') → ∃ k, r = .fz (.bl k)) (σ : L2.St) (H : Hp) (Q : Bool → Hp → Prop) (h : tT K (fun ρ => tst (g ρ)) σ H Q) : tTest t σ H Q := by
  obtain ⟨Z, pn, ρ, b, ρ', s, e, q⟩ := h
  obtain ⟨r, e1, hs, ht⟩ := tst_inv e
  obtain ⟨k, rfl⟩ := hb ρ r ρ' e1
  refine h0 _ _ _ ⟨Z, pn, ρ, _, ρ', s, e1, fun x H' p => ⟨k, post_is_bl p, ?_⟩⟩
  have : k = b := ht
  rw [this]
  exact q H' p.1 p.2.1
theorem andT_rd {ga gb : Env → Option (RV × Env)} (σ : L2.St) (H : Hp) (Q : Bool → Hp → Prop) (h : tT K (fun ρ => tst (gAnd ga gb ρ)) σ H Q) : tAnd (tT K fun ρ => tst (ga ρ)) (tT K fun ρ => tst (gb ρ)) σ H Q := by
  obtain ⟨Z, pn, ρ, b, ρ', s, e, q⟩ := h
  obtain ⟨r, e1, hs, ht⟩ := tst_inv e
  obtain ⟨⟨r1, ρ1⟩, g1, e⟩ := Option.bind_eq_some_iff.mp e1
  obtain ⟨k, hk, e⟩ := bl_inv (g := fun r => match r with | .fz (.bl k) => if k then gb ρ1 else some (RV.fz (.bl false), ρ1) | _ => none) (f := fun k => if k then gb ρ1 else some (RV.fz (.bl false), ρ1)) (fun r => rfl) e
  have hk : r1 = .fz (.bl k) := hk
  subst hk
  refine ⟨Z, pn, ρ, k, ρ1, s, by show tst (ga ρ) = _; rw [g1]; rfl, fun H1 s1 st => ?_⟩
  cases k with
  | true =>
    simp only [if_true] at e ⊢
    exact ⟨Z, pn, ρ1, b, ρ', s1, by show tst (gb ρ1) = _; rw [e]; unfold tst; simp [hs, ht], fun H2 s2 st2 => q H2 s2 (st.trans st2)⟩
  | false =>
    simp only [Bool.false_eq_true, if_false] at e ⊢
    cases e
    cases ht
    exact q H1 s1 st
theorem orT_rd {ga gb : Env → Option (RV × Env)} (σ : L2.St) (H : Hp) (Q : Bool → Hp → Prop) (h : tT K (fun ρ => tst (gOr ga gb ρ)) σ H Q) : tOr (tT K fun ρ => tst (ga ρ)) (tT K fun ρ => tst (gb ρ)) σ H Q := by
  obtain ⟨Z, pn, ρ, b, ρ', s, e, q⟩ := h
  obtain ⟨r, e1, hs, ht⟩ := tst_inv e
  obtain ⟨⟨r1, ρ1⟩, g1, e⟩ := Option.bind_eq_some_iff.mp e1
  obtain ⟨k, hk, e⟩ := bl_inv (g := fun r => match r with | .fz (.bl k) => if k then some (RV.fz (.bl true), ρ1) else gb ρ1 | _ => none) (f := fun k => if k then some (RV.fz (.bl true), ρ1) else gb ρ1) (fun r => rfl) e
  have hk : r1 = .fz (.bl k) := hk
  subst hk
  refine ⟨Z, pn, ρ, k, ρ1, s, by show tst (ga ρ) = _; rw [g1]; rfl, fun H1 s1 st => ?_⟩
  cases k with
  | false =>
    simp only [Bool.false_eq_true, if_false] at e ⊢
    exact ⟨Z, pn, ρ1, b, ρ', s1, by show tst (gb ρ1) = _; rw [e]; unfold tst; simp [hs, ht], fun H2 s2 st2 => q H2 s2 (st.trans st2)⟩
  | true =>
    simp only [if_true] at e ⊢
    cases e
    cases ht
    exact q H1 s1 st
theorem ite_rd {gc ga gb : Env → Option (RV × Env)} (σ : L2.St) (H : Hp) (Q : VK) (h : tR K (fun ρ => (tst (gc ρ)).bind fun p => if p.1 then ga p.2 else gb p.2) σ H Q) : tIf (tT K fun ρ => tst (gc ρ)) (tR K ga) (tR K gb) σ H Q := by
  obtain ⟨Z, pn, ρ, res, ρ', s, e, q⟩ := h
  obtain ⟨⟨b, ρ1⟩, e1, e⟩ := Option.bind_eq_some_iff.mp e
  refine ⟨Z, pn, ρ, b, ρ1, s, e1, fun H1 s1 st => ?_⟩
  cases b with
  | true =>
    simp only [if_true] at e ⊢
    exact ⟨Z, pn, ρ1, res, ρ', s1, e, fun y H2 p2 => q y H2 (p2.pre st)⟩
  | false =>
    simp only [Bool.false_eq_true, if_false] at e ⊢
    exact ⟨Z, pn, ρ1, res, ρ', s1, e, fun y H2 p2 => q y H2 (p2.pre st)⟩
/-! ### ranges as lists, tuples -/
theorem int_val {W : AS} {H : Hp} {v : PV} {x : V} {i : Int} (h : Rep K W H v x) (e : v = .int i) : x = .int i := by subst e; exact h
theorem reps_rg {W : AS} {H : Hp} (a : Int) (n : Nat) : Reps K W H ((List.range n).map fun k => PV.int (a + (k : Nat))) ((List.range n).map fun k => V.int (a + (k : Nat))) := by
  generalize List.range n = l
  induction l with
  | nil => rfl
  | cons x l ih => exact ⟨_, _, rfl, rfl, ih⟩
theorem rg_reps {W : AS} {H : Hp} (a b : Int) : Reps K W H ((List.range (b - a).toNat).map fun k => PV.int (a + (k : Nat))) (rgV a b) := reps_rg a _
theorem mkSeq_inv {t : Bool} {xs : List PV} {r : RV} (h : mkSeq t xs = some r) : xs.length ≤ LIM ∧ r = (if t then RV.fz (.tup xs) else RV.fr (.lst xs)) := by
  unfold mkSeq at h
  split at h
  · rename_i hl
    cases h
    exact ⟨hl, rfl⟩
  · cases h
theorem rgOk_of {a b : Int} (h : -(2 ^ 62) ≤ a ∧ a < 2 ^ 62 ∧ -(2 ^ 62) ≤ b ∧ b < 2 ^ 62) (hl : (b - a).toNat ≤ LIM) : RgOk a b := ⟨h.1, h.2.1, h.2.2.1, h.2.2.2, hl⟩
theorem rng1_rd {t : Bool} {g : Env → Option (RV × Env)} (σ : L2.St) (H : Hp) (Q : VK) (h : tR K (fun ρ => (g ρ).bind fun p => (rangeItems [p.1.val]).bind fun xs => (mkSeq t xs).map fun r => (r, p.2)) σ H Q) :
    (if t then tTupRg (tRg1 (tR K g)) else tLstRg (tRg1 (tR K g))) σ H Q := by
  obtain ⟨Z, pn, ρ, res, ρ', s, e, q⟩ := h
  obtain ⟨⟨r, ρ1⟩, g1, e⟩ := Option.bind_eq_some_iff.mp e
  obtain ⟨xs, g2, e⟩ := Option.bind_eq_some_iff.mp e
  obtain ⟨rv, g3, e⟩ := Option.map_eq_some_iff.mp e
  cases e
  obtain ⟨hl, rfl⟩ := mkSeq_inv g3
  rcases range_items g2 with ⟨n, e1, l1, l2, e2⟩ | ⟨lo, hi, e1, _⟩
  · have e1 : r.val = .int n := by simpa using e1
    subst e2
    have hl : (n - 0).toNat ≤ LIM := by simpa using hl
    have hr : (List.range n.toNat).map (fun k => PV.int (0 + (k : Nat))) = (List.range (n - 0).toNat).map fun k => PV.int (0 + (k : Nat)) := by rw [Int.sub_zero]
    rw [hr] at q
    cases t with
    | true =>
      refine ⟨Z, pn, ρ, r, ρ1, s, g1, fun x H1 p => ?_⟩
      obtain ⟨s1, st, rp⟩ := p.freeze
      exact ⟨n, int_val rp e1, rgOk_of ⟨by decide, by decide, l1, l2⟩ hl, fun a ha => q _ _ ((PostE.tup s1 (rg_reps 0 n) ha).pre st)⟩
    | false =>
      refine ⟨Z, pn, ρ, r, ρ1, s, g1, fun x H1 p => ?_⟩
      obtain ⟨s1, st, rp⟩ := p.freeze
      exact ⟨n, int_val rp e1, rgOk_of ⟨by decide, by decide, l1, l2⟩ hl, fun a ha => q _ _ ((PostE.lst s1 (rg_reps 0 n) ha).pre st)⟩
  · simp at e1
theorem rng2_rd {t : Bool} {g g' : Env → Option (RV × Env)} (σ : L2.St) (H : Hp) (Q : VK) (h : tR K (fun ρ => (g ρ).bind fun p => (g' p.2).bind fun q => (rangeItems [p.1.val, q.1.val]).bind fun xs => (mkSeq t xs).map fun r => (r, q.2)) σ H Q) :
    (if t then tTupRg (tRg2 (tR K g) (tR K g')) else tLstRg (tRg2 (tR K g) (tR K g'))) σ H Q := by
  obtain ⟨Z, pn, ρ, res, ρ', s, e, q⟩ := h
  obtain ⟨⟨r, ρ1⟩, g1, e⟩ := Option.bind_eq_some_iff.mp e
  obtain ⟨⟨r', ρ2⟩, g1', e⟩ := Option.bind_eq_some_iff.mp e
  obtain ⟨xs, g2, e⟩ := Option.bind_eq_some_iff.mp e
  obtain ⟨rv, g3, e⟩ := Option.map_eq_some_iff.mp e
  cases e
  obtain ⟨hl, rfl⟩ := mkSeq_inv g3
  rcases range_items g2 with ⟨n, e1, l1, l2, e2⟩ | ⟨lo, hi, e1, c, e2⟩
  · simp at e1
  · have e1 : r.val = .int lo ∧ r'.val = .int hi := by simpa using e1
    subst e2
    have hl : (hi - lo).toNat ≤ LIM := by simpa using hl
    cases t with
    | true =>
      refine ⟨Z, pn, ρ, r, ρ1, s, g1, fun x H1 p => ⟨Z, pn, ρ1, r', _, p.freeze.1, g1', fun y H2 p2 => ?_⟩⟩
      obtain ⟨s1, st, rp⟩ := p.freeze
      obtain ⟨s2, st2, rp2⟩ := p2.freeze
      exact ⟨lo, hi, int_val rp e1.1, int_val rp2 e1.2, rgOk_of c hl, fun a ha => q _ _ ((PostE.tup s2 (rg_reps lo hi) ha).pre (st.trans st2))⟩
    | false =>
      refine ⟨Z, pn, ρ, r, ρ1, s, g1, fun x H1 p => ⟨Z, pn, ρ1, r', _, p.freeze.1, g1', fun y H2 p2 => ?_⟩⟩
      obtain ⟨s1, st, rp⟩ := p.freeze
      obtain ⟨s2, st2, rp2⟩ := p2.freeze
      exact ⟨lo, hi, int_val rp e1.1, int_val rp2 e1.2, rgOk_of c hl, fun a ha => q _ _ ((PostE.lst s2 (rg_reps lo hi) ha).pre (st.trans st2))⟩
/-! ### calls -/
theorem bi_rd {r : List V → Hp → VK → Prop} {b : Bi} {g : Env → Option (List Bw × Env)} (ok : CallOk K r b) (σ : L2.St) (H : Hp) (Q : VK) (h : tR K (fun ρ => (g ρ).bind fun p => (derefs p.1 p.2).bind fun vs => (bias b vs).map fun r => (r, p.2)) σ H Q) : tCB r (tAs K g) σ H Q := by
  obtain ⟨Z, pn, ρ, res, ρ', s, e, q⟩ := h
  obtain ⟨⟨bs, ρ1⟩, g1, e⟩ := Option.bind_eq_some_iff.mp e
  obtain ⟨vs, g2, e⟩ := Option.bind_eq_some_iff.mp e
  obtain ⟨r', g3, e⟩ := Option.map_eq_some_iff.mp e
  cases e
  exact ⟨Z, pn, ρ, bs, _, s, g1, fun xs H1 s1 e1 at1 => ok Z pn σ H1 _ vs xs _ Q s1 (derefs_ok s1 at1 g2) g3 fun z H' p => q z H' (p.pre e1)⟩
theorem call_rd {C : Cl} {f n : Nat} {E : XK} {g : Env → Option (List Bw × Env)} (hn : ∀ ρ bs ρ', g ρ = some (bs, ρ') → bs.length = n) (σ : L2.St) (H : Hp) (Q : VK)
    (h : tR K (fun ρ => (g ρ).bind fun p => if (slots p.1).length ≤ 1 then (avGet p.2 p.1).bind fun vs => (C f vs).bind fun r => (avPut p.1 r.2 p.2).map fun ρ' => (r.1, ρ') else none) σ H Q) : tCall (spEV K C f n) [] E (tAs K g) σ H Q := by
  obtain ⟨Z, pn, ρ, res, ρ', s, e, q⟩ := h
  obtain ⟨⟨bs, ρ1⟩, g1, e⟩ := Option.bind_eq_some_iff.mp e
  have e : (if (slots bs).length ≤ 1 then (avGet ρ1 bs).bind fun vs => (C f vs).bind fun r => (avPut bs r.2 ρ1).map fun ρ' => (r.1, ρ') else none) = some (res, ρ') := e
  split at e
  · rename_i h1
    obtain ⟨args, g2, e⟩ := Option.bind_eq_some_iff.mp e
    obtain ⟨⟨r, fin⟩, g3, e⟩ := Option.bind_eq_some_iff.mp e
    obtain ⟨ρ2, g4, e⟩ := Option.map_eq_some_iff.mp e
    cases e
    refine ⟨Z, pn, ρ, bs, ρ1, s, g1, fun xs H1 s1 e1 at1 => ?_⟩
    show spEV K C f n (xs ++ []) H1 Q E
    rw [List.append_nil]
    exact ⟨Zc Z σ ρ1 args xs, args, r, fin, by rw [avGet_len g2]; exact hn _ _ _ g1, g3, args_at s1 at1 g2 h1, fun x H' ra => q x H' ((ret_post s1 at1 g2 h1 ra g4).pre e1)⟩
  · cases e
theorem slots_vals : ∀ vs : List PV, slots (vs.map Bw.val) = []
  | [] => rfl
  | _ :: vs => slots_vals vs
theorem avGet_vals {ρ : Env} : ∀ vs : List PV, avGet ρ (vs.map Bw.val) = some (vs.map fun v => (false, v))
  | [] => rfl
  | v :: vs => by
    show (avGet ρ (vs.map Bw.val)).map ((false, v) :: ·) = _
    rw [avGet_vals vs]; rfl
def tKs (K : PySem.W.Frag) (g : Env → Option (List PV × Env)) : TA := fun σ H Q => ∃ Z pn ρ vs ρ', SR K Z pn σ H ρ ∧ g ρ = some (vs, ρ') ∧
  ∀ xs H', SR K Z pn σ H' ρ' → Stp Z (Wof Z σ ρ) (Wof Z σ ρ') H H' → Reps K (Wof Z σ ρ') H' vs xs → Q xs H'
theorem pick_reps {W : AS} {H : Hp} {xs : List PV} {vs : List V} (h : Reps K W H xs vs) : ∀ {order : List Nat} {ys : List PV}, pick xs order = some ys → Reps K W H ys ((pick vs order).getD []) ∧ (pick vs order).isSome = true
  | [], _, e => by cases e; exact ⟨rfl, rfl⟩
  | i :: r, _, e => by
    obtain ⟨y, e1, e⟩ := Option.bind_eq_some_iff.mp (show xs[i]?.bind _ = some _ from e)
    obtain ⟨zs, e2, e⟩ := Option.map_eq_some_iff.mp e
    subst e
    obtain ⟨v, ev, rv⟩ := h.get e1
    obtain ⟨h1, h2⟩ := pick_reps h e2
    obtain ⟨ws, ew⟩ := Option.isSome_iff_exists.mp h2
    have : pick vs (i :: r) = some (v :: ws) := by
      show vs[i]?.bind (fun x => (pick vs r).map (x :: ·)) = _
      rw [ev, ew]; rfl
    rw [this]
    rw [ew] at h1
    exact ⟨⟨v, ws, rfl, rv, h1⟩, rfl⟩
theorem pick_len {α : Type} {xs : List α} : ∀ {order : List Nat} {ys : List α}, pick xs order = some ys → ys.length = order.length
  | [], _, e => by cases e; rfl
  | i :: r, _, e => by
    obtain ⟨y, e1, e⟩ := Option.bind_eq_some_iff.mp (show xs[i]?.bind _ = some _ from e)
    obtain ⟨zs, e2, e⟩ := Option.map_eq_some_iff.mp e
    subst e
    rw [List.length_cons, List.length_cons, pick_len e2]
theorem vals?_len : ∀ {bs : List Bw} {us : List PV}, vals? bs = some us → us.length = bs.length
  | [], _, e => by cases e; rfl
  | .val v :: r, _, e => by
    obtain ⟨ws, q, e2⟩ := Option.map_eq_some_iff.mp (show (vals? r).map (v :: ·) = some _ from e)
    subst e2
    rw [List.length_cons, List.length_cons, vals?_len q]
  | .slot _ :: _, _, e => by cases e
theorem callK_rd {C : Cl} {f np n m : Nat} {order : List Nat} {E : XK} {g : Env → Option (List Bw × Env)} {gk : Env → Option (List PV × Env)} (hn : ∀ ρ bs ρ', g ρ = some (bs, ρ') → bs.length = n) (hm : ∀ ρ vs ρ', gk ρ = some (vs, ρ') → vs.length = m) (ho : order.length = np) (σ : L2.St) (H : Hp) (Q : VK)
    (h : tR K (fun ρ => (g ρ).bind fun p => (gk p.2).bind fun q => (vals? p.1).bind fun us => (pick (us ++ q.1) order).bind fun vs => (C f (vs.map fun v => (false, v))).map fun r => (r.1, q.2)) σ H Q) :
    tCallN n m (spEV K C f np) (fun vs zs => (pick (vs ++ zs) order).getD []) E (tAs K g) (tKs K gk) σ H Q := by
  obtain ⟨Z, pn, ρ, res, ρ', s, e, q⟩ := h
  obtain ⟨⟨bs, ρ1⟩, g1, e⟩ := Option.bind_eq_some_iff.mp e
  obtain ⟨⟨ks, ρ2⟩, g2, e⟩ := Option.bind_eq_some_iff.mp e
  obtain ⟨us, g3, e⟩ := Option.bind_eq_some_iff.mp e
  obtain ⟨vs, g4, e⟩ := Option.bind_eq_some_iff.mp e
  obtain ⟨⟨r, fin⟩, g5, e⟩ := Option.map_eq_some_iff.mp e
  cases e
  refine ⟨Z, pn, ρ, bs, ρ1, s, g1, fun xs H1 s1 e1 at1 => ⟨Z, pn, ρ1, ks, ρ2, s1, g2, fun zs H2 s2 e2 rk => ?_⟩⟩
  have r1 := (at1.reps g3).ext e2.ext
  obtain ⟨rp, _⟩ := pick_reps (r1.app rk) g4
  refine ⟨by rw [at1.length]; exact hn _ _ _ g1, by rw [rk.length]; exact hm _ _ _ g2, ?_⟩
  have at2 : BwsAt K (Wof Z σ ρ2) σ H2 (vs.map Bw.val) ((pick (xs ++ zs) order).getD []) := BwsAt.of_reps rp
  have hs : slots (vs.map Bw.val) = [] := slots_vals vs
  exact ⟨Zc Z σ ρ2 (vs.map fun v => (false, v)) ((pick (xs ++ zs) order).getD []), vs.map fun v => (false, v), r, fin, by rw [List.length_map, pick_len g4, ho], g5, args_at s2 at2 (avGet_vals vs) (by rw [hs]; exact Nat.zero_le _), fun x H' ra => q x H' ((ret_post s2 at2 (avGet_vals vs) (by rw [hs]; exact Nat.zero_le _) ra (avPut_none hs)).pre (e1.trans e2))⟩
/-! ### isinstance -/
def tyName : PV → String
  | .non => "NoneType" | .bl _ => "bool" | .int _ => "int" | .str _ => "str" | .tup _ => "tuple" | .lst _ => "list" | .dct _ => "dict"
theorem tyx_rep {W : AS} {H : Hp} {v : PV} {x : V} (h : BRep K W H v x) : TyX K H x (.type (tyName v)) := by
  cases v with
  | non => rw [show x = _ from h]; exact .base .non
  | bl b => rw [show x = _ from h]; exact .base (.bl b)
  | int i => rw [show x = _ from h]; exact .base (.int i)
  | str z => rw [show x = _ from h]; exact .base (.str z)
  | tup xs =>
    obtain ⟨a, vs, rfl, h1, h2⟩ := h
    rcases h1 with ⟨h1 | ⟨o, h1⟩, _⟩ | ⟨o, its, n, e, c, _⟩
    · exact .base (.tup h1)
    · exact .fTuple h1
    · exact .kTuple e c
  | lst xs =>
    obtain ⟨a, vs, rfl, h1, h2⟩ := h
    rcases h1 with (h1 | ⟨o, h1⟩) | ⟨o, its, n, e, c, _⟩
    · exact .base (.lst h1)
    · exact .base (.frz h1)
    · exact .kList e c
  | dct _ => exact h.elim
theorem kit_all : (["NoneType", "bool", "int", "str", "tuple", "list", "dict"].all fun a => [Ty.int, Ty.bool, Ty.str, Ty.tuple, Ty.list, Ty.dict].all fun t => kitB a t.nm == some (a == t.nm || (a == "bool" && t.nm == "int"))) = true := by decide +kernel
theorem kit_tyOf (v : PV) (t : Ty) : kitB (tyName v) t.nm = some (tyOf v t) := by
  have h := kit_all
  have g : ∀ a ∈ ["NoneType", "bool", "int", "str", "tuple", "list", "dict"], kitB a t.nm = some (a == t.nm || (a == "bool" && t.nm == "int")) := fun a ha => by
    have h1 := List.all_eq_true.mp h a ha
    have h2 := List.all_eq_true.mp h1 t (by cases t <;> simp)
    exact eq_of_beq h2
  rw [g (tyName v) (by cases v <;> simp [tyName])]
  cases v <;> cases t <;> rfl
theorem kit_any (v : PV) : ∀ tys : List Ty, PySem.W.kitAny K (.type (tyName v)) (tys.map fun t => Value.type t.nm) = some (tys.any (tyOf v))
  | [] => kitAny_nil
  | t :: ts => kitAny_cons (kit_ty (kit_tyOf v t)) (fun e => by rw [kit_any v ts, List.any_cons, e, Bool.false_or]) fun e => by rw [List.any_cons, e, Bool.true_or]
end
end EV
set_option Elab.async false
set_option linter.all false
set_option maxRecDepth 100000
namespace EV
open PySem PySem.Spec PyProof.Rows L2
section
variable {T : Tab} {G : List PV} {C : Cl} {N : List Str} {sc : Scope} {top : Bool} {X : Cx}
/-! ### types -/
def tTys (tys : List Ty) : TA := fun _ H Q => Q (tys.map fun t => V.ty t.nm) H
theorem boot_ty (t : Ty) : bootBuiltins (Str.ofString t.nm) = some (.type t.nm) := by cases t <;> decide +kernel
theorem Ty.mem (t : Ty) : t.nm ∈ ["len", "int", "tuple", "list", "all", "any", "min", "max", "sum", "abs", "bool", "str", "dict", "isinstance", "range", "enumerate", "zip"] := by cases t <;> decide
theorem Ty.ne (t : Ty) : Str.ofString t.nm ≠ "__name__" := by cases t <;> decide +kernel
theorem Ty.nd (t : Ty) : (Str.ofString t.nm == ("__debug__" : Str)) = false := by cases t <;> decide +kernel
theorem pe_ty (k : XOk T G C N sc top X) {t : Ty} {e : Expr} (h : tyB sc t e = true) : PE X e (tC (.ty t.nm)) := by
  cases e with
  | Name x pos =>
    simp only [tyB, Bool.and_eq_true] at h
    have e1 : x = Str.ofString t.nm := by simpa using h.1
    subst e1
    exact pe_bltn (k.gl h.2) (k.bl _ t.mem) (boot_ty t) rfl t.ne t.nd
  | _ => simp [tyB] at h
theorem starEach_plain {e : Expr} {es : List Expr} {env : PySem.Env} (h : isStar e = false) : starEach (e :: es) env = (false, eval e env) :: starEach es env := by
  cases e <;> first | rfl | (exfalso; simp [isStar] at h)
theorem tyB_plain {t : Ty} {e : Expr} (h : tyB sc t e = true) : isStar e = false := by
  cases e <;> first | rfl | simp [tyB] at h
theorem pa_tys (k : XOk T G C N sc top X) : ∀ (tys : List Ty) (es : List Expr), tysB sc tys es = true → PA X es (tTys tys)
  | [], es, h => by
    cases es with
    | nil => exact pa_nil
    | cons _ _ => simp [tysB] at h
  | t :: ts, es, h => by
    cases es with
    | nil => simp [tysB] at h
    | cons e r =>
      simp only [tysB, Bool.and_eq_true] at h
      exact pa_imp (pa_cons (pe_ty k h.1) (pa_tys k ts r h.2) (starEach_plain (tyB_plain h.1))) fun σ H Q q => q
theorem isi_rd1 {K : PySem.W.Frag} {t : Ty} {ga : Env → Option (Bw × Env)} (σ : L2.St) (H : Hp) (Q : VK) (h : tR K (fun ρ => (ga ρ).bind fun p => (deref p.1 p.2).map fun x => (.fz (.bl ([t].any (tyOf x))), p.2)) σ H Q) :
    tCB (fun xs H Q => rIsi K xs H Q ∨ rIsiT K xs H Q) (tCons (tB K ga) (tCons (tC (.ty t.nm)) tNil)) σ H Q := by
  obtain ⟨Z, pn, ρ, res, ρ', s, e, q⟩ := h
  obtain ⟨⟨b1, ρ1⟩, g1, e⟩ := Option.bind_eq_some_iff.mp e
  obtain ⟨v, d1, e⟩ := Option.map_eq_some_iff.mp e
  cases e
  refine ⟨Z, pn, ρ, b1, ρ1, s, g1, fun x H1 s1 e1 at1 => ?_⟩
  have br := deref_ok s1 at1 d1
  refine .inl ⟨x, .ty t.nm, .type (tyName v), .type t.nm, tyOf v t, rfl, .ty _, tyx_rep br, kit_ty (kit_tyOf v t), ?_⟩
  have := q _ _ ((post_bl (b := [t].any (tyOf v)) s1).pre e1)
  simpa using this
theorem isi_rdT {K : PySem.W.Frag} {tys : List Ty} {ga : Env → Option (Bw × Env)} (hl : tys.length ≤ 100) (σ : L2.St) (H : Hp) (Q : VK) (h : tR K (fun ρ => (ga ρ).bind fun p => (deref p.1 p.2).map fun x => (.fz (.bl (tys.any (tyOf x))), p.2)) σ H Q) :
    tCB (fun xs H Q => rIsi K xs H Q ∨ rIsiT K xs H Q) (tCons (tB K ga) (tCons (tTup (tTys tys)) tNil)) σ H Q := by
  obtain ⟨Z, pn, ρ, res, ρ', s, e, q⟩ := h
  obtain ⟨⟨b1, ρ1⟩, g1, e⟩ := Option.bind_eq_some_iff.mp e
  obtain ⟨v, d1, e⟩ := Option.map_eq_some_iff.mp e
  cases e
  refine ⟨Z, pn, ρ, b1, ρ1, s, g1, fun x H1 s1 e1 at1 => ⟨?_, fun p hp => ?_⟩⟩
  · rw [List.length_map]
    exact Nat.le_trans hl (by rw [← LIM_eq]; decide)
  · have s2 := s1.heap (upd_keeps (o := .tup (tys.map fun t => V.ty t.nm)) hp)
    have st : Stp Z (Wof Z σ ρ1) (Wof Z σ ρ1) H1 (upd H1 p (.tup (tys.map fun t => V.ty t.nm))) := Stp.grow (upd_keeps hp) s1.zt
    have br := deref_ok s2 (at1.ext st.ext) d1
    have paired : ∀ l : List Ty, Paired ClsV (l.map fun t => V.ty t.nm) (l.map fun t => Value.type t.nm) := fun l => by
      induction l with
      | nil => exact .nil
      | cons t ts ih => exact .cons (.ty _) ih
    exact .inr ⟨x, p, _, .type (tyName v), _, tys.any (tyOf v), rfl, upd_same, paired tys, tyx_rep br, kit_any v tys, q _ _ ((post_bl s2).pre (e1.trans st))⟩
/-! ### arguments -/
theorem asCons_rd {K : PySem.W.Frag} {ge : Env → Option (RV × Env)} {gr : Env → Option (List Bw × Env)} (σ : L2.St) (H : Hp) (Q : List V → Hp → Prop) (h : tAs K (fun ρ => (ge ρ).bind fun p => (gr p.2).map fun q => (.val p.1.val :: q.1, q.2)) σ H Q) : tCons (tR K ge) (tAs K gr) σ H Q := by
  obtain ⟨Z, pn, ρ, bs, ρ', s, e, q⟩ := h
  obtain ⟨⟨r, ρ1⟩, g1, e⟩ := Option.bind_eq_some_iff.mp e
  obtain ⟨⟨cs, ρ2⟩, g2, e⟩ := Option.map_eq_some_iff.mp e
  cases e
  refine ⟨Z, pn, ρ, r, ρ1, s, g1, fun x H1 p => ?_⟩
  obtain ⟨s1, e1, rp⟩ := p.freeze
  exact ⟨Z, pn, ρ1, cs, ρ2, s1, g2, fun xs H2 s2 e2 at2 => q _ _ s2 (e1.trans e2) ⟨x, xs, rfl, rp.ext e2.ext, at2⟩⟩
theorem asRef_rd {K : PySem.W.Frag} {ge : Env → Option (Bw × Env)} {gr : Env → Option (List Bw × Env)} (σ : L2.St) (H : Hp) (Q : List V → Hp → Prop) (h : tAs K (fun ρ => (ge ρ).bind fun p => (gr p.2).map fun q => (p.1 :: q.1, q.2)) σ H Q) : tCons (tB K ge) (tAs K gr) σ H Q := by
  obtain ⟨Z, pn, ρ, bs, ρ', s, e, q⟩ := h
  obtain ⟨⟨r, ρ1⟩, g1, e⟩ := Option.bind_eq_some_iff.mp e
  obtain ⟨⟨cs, ρ2⟩, g2, e⟩ := Option.map_eq_some_iff.mp e
  cases e
  refine ⟨Z, pn, ρ, r, ρ1, s, g1, fun x H1 s1 e1 at1 => ?_⟩
  exact ⟨Z, pn, ρ1, cs, ρ2, s1, g2, fun xs H2 s2 e2 at2 => q _ _ s2 (e1.trans e2) ⟨x, xs, rfl, at1.ext e2.ext, at2⟩⟩
theorem asStar_rd {K : PySem.W.Frag} {ge : Env → Option (RV × Env)} {gr : Env → Option (List Bw × Env)} (σ : L2.St) (H : Hp) (Q : List V → Hp → Prop) (h : tAs K (fun ρ => (ge ρ).bind fun p => p.1.val.seq?.bind fun xs => (gr p.2).map fun q => (xs.map .val ++ q.1, q.2)) σ H Q) : StX.tStar K (tR K ge) (tAs K gr) σ H Q := by
  obtain ⟨Z, pn, ρ, bs, ρ', s, e, q⟩ := h
  obtain ⟨⟨r, ρ1⟩, g1, e⟩ := Option.bind_eq_some_iff.mp e
  obtain ⟨xs, g3, e⟩ := Option.bind_eq_some_iff.mp e
  obtain ⟨⟨cs, ρ2⟩, g2, e⟩ := Option.map_eq_some_iff.mp e
  cases e
  refine ⟨Z, pn, ρ, r, ρ1, s, g1, fun x H1 p => ?_⟩
  obtain ⟨s1, e1, rp⟩ := p.freeze
  obtain ⟨k, a, vs, rfl, h1, h2⟩ := rep_seq rp g3
  refine ⟨a, vs, rfl, ?_, Z, pn, ρ1, cs, ρ2, s1, g2, fun ys H2 s2 e2 at2 => q _ _ s2 (e1.trans e2) (BwsAt.app (BwsAt.of_reps (h2.ext e2.ext)) at2)⟩
  cases k with
  | true => exact .inl (SqTW.sq h1)
  | false => exact .inr (SqLW.sq h1)
theorem asNil_rd {K : PySem.W.Frag} (σ : L2.St) (H : Hp) (Q : List V → Hp → Prop) (h : tAs K (fun ρ => some ([], ρ)) σ H Q) : tNil σ H Q := by
  obtain ⟨Z, pn, ρ, bs, ρ', s, e, q⟩ := h
  cases e
  exact q [] H s Stp.refl rfl
theorem ksNil_rd {K : PySem.W.Frag} (σ : L2.St) (H : Hp) (Q : List V → Hp → Prop) (h : tKs K (fun ρ => some ([], ρ)) σ H Q) : tNil σ H Q := by
  obtain ⟨Z, pn, ρ, bs, ρ', s, e, q⟩ := h
  cases e
  exact q [] H s Stp.refl rfl
theorem ksCons_rd {K : PySem.W.Frag} {ge : Env → Option (RV × Env)} {gr : Env → Option (List PV × Env)} (σ : L2.St) (H : Hp) (Q : List V → Hp → Prop) (h : tKs K (fun ρ => (ge ρ).bind fun p => (gr p.2).map fun q => (p.1.val :: q.1, q.2)) σ H Q) : tCons (tR K ge) (tKs K gr) σ H Q := by
  obtain ⟨Z, pn, ρ, bs, ρ', s, e, q⟩ := h
  obtain ⟨⟨r, ρ1⟩, g1, e⟩ := Option.bind_eq_some_iff.mp e
  obtain ⟨⟨cs, ρ2⟩, g2, e⟩ := Option.map_eq_some_iff.mp e
  cases e
  refine ⟨Z, pn, ρ, r, ρ1, s, g1, fun x H1 p => ?_⟩
  obtain ⟨s1, e1, rp⟩ := p.freeze
  exact ⟨Z, pn, ρ1, cs, ρ2, s1, g2, fun xs H2 s2 e2 at2 => q _ _ s2 (e1.trans e2) ⟨x, xs, rfl, rp.ext e2.ext, at2⟩⟩
theorem pk_imp {ks : List Keyword} {t t' : TA} (h : PK X ks t) (q : ∀ σ H Q, t' σ H Q → t σ H Q) : PK X ks t' := ⟨fun pos pins s σ H Q I hw => h.run pos pins s σ H Q I (q σ H Q hw)⟩
theorem pts_imp {es : List Expr} {t t' : TT} (h : PTs X es t) (q : ∀ σ H Q, t' σ H Q → t σ H Q) : PTs X es t' := ⟨fun pins s σ H Q I hw => h.run pins s σ H Q I (q σ H Q hw)⟩
theorem pw_imp {e : Expr} {t t' : TT} (h : PW X e t) (q : ∀ σ H Q, t' σ H Q → t σ H Q) : PW X e t' := ⟨fun wh pins s σ H Q I hw => h.run wh pins s σ H Q I (q σ H Q hw)⟩
theorem tsNil_rd {K : PySem.W.Frag} (σ : L2.St) (H : Hp) (Q : Bool → Hp → Prop) (h : tT K (fun ρ => some (true, ρ)) σ H Q) : tYes σ H Q := by
  obtain ⟨Z, pn, ρ, b, ρ', s, e, q⟩ := h
  cases e
  exact q H s Stp.refl
/-! ### stars -/
theorem okAs_len : ∀ (as : List (AK × Ex)) (xs : List Expr), okAs T N as sc top xs = true → xs.length = as.length
  | [], xs, h => by
    cases xs with
    | nil => rfl
    | cons _ _ => simp [okAs] at h
  | (k, c) :: cs, xs, h => by
    cases xs with
    | nil => simp [okAs] at h
    | cons x r =>
      simp only [okAs, Bool.and_eq_true] at h
      rw [List.length_cons, List.length_cons, okAs_len cs r h.2]
theorem okAs_plain {c : Ex} {k : AK} {cs : List (AK × Ex)} {x : Expr} {r : List Expr} (hk : k ≠ .star) (h : okAs T N ((k, c) :: cs) sc top (x :: r) = true) : isStar x = false ∧ okE T N c sc top x = true ∧ okAs T N cs sc top r = true := by
  cases k with
  | star => exact absurd rfl hk
  | val => simpa [okAs, and_assoc] using h
  | ref => simpa [okAs, and_assoc] using h
theorem noStar_cons {k : AK} {c : Ex} {cs : List (AK × Ex)} (h : noStar ((k, c) :: cs) = true) : k ≠ .star ∧ noStar cs = true := by
  unfold noStar at h ⊢
  rw [List.all_cons, Bool.and_eq_true] at h
  exact ⟨by simpa using h.1, h.2⟩
theorem any_plain {env : PySem.Env} {pos : Pos} : ∀ (as : List (AK × Ex)) (xs : List Expr), noStar as = true → okAs T N as sc top xs = true → (backTo pos (starEach xs env)).any (·.1) = false
  | [], xs, _, h => by
    cases xs with
    | nil => rfl
    | cons _ _ => simp [okAs] at h
  | (k, c) :: cs, xs, hs, h => by
    cases xs with
    | nil => simp [okAs] at h
    | cons x r =>
      obtain ⟨h1, h2⟩ := noStar_cons hs
      obtain ⟨g1, _, g3⟩ := okAs_plain h1 h
      rw [starEach_plain g1]
      show (false || (backTo pos (starEach r env)).any (·.1)) = false
      rw [any_plain cs r h2 g3]
      rfl
theorem evAs_len {ρ : Env} : ∀ (as : List (AK × Ex)) {ρ : Env} {bs : List Bw} {ρ' : Env}, noStar as = true → evAs G C as ρ = some (bs, ρ') → bs.length = as.length
  | [], _, _, _, _, h => by cases h; rfl
  | (k, c) :: cs, ρ, bs, ρ', hs, h => by
    obtain ⟨h1, h2⟩ := noStar_cons hs
    cases k with
    | star => exact absurd rfl h1
    | val =>
      obtain ⟨⟨r, ρ1⟩, g1, e⟩ := Option.bind_eq_some_iff.mp (show (evE G C c ρ).bind (fun p => (evAs G C cs p.2).map fun q => (Bw.val p.1.val :: q.1, q.2)) = some (bs, ρ') from h)
      obtain ⟨⟨ds, ρ2⟩, g2, e⟩ := Option.map_eq_some_iff.mp e
      cases e
      rw [List.length_cons, List.length_cons, evAs_len (ρ := ρ) cs h2 g2]
    | ref =>
      obtain ⟨⟨r, ρ1⟩, g1, e⟩ := Option.bind_eq_some_iff.mp (show (bw c (evE G C c ρ) ρ).bind (fun p => (evAs G C cs p.2).map fun q => (p.1 :: q.1, q.2)) = some (bs, ρ') from h)
      obtain ⟨⟨ds, ρ2⟩, g2, e⟩ := Option.map_eq_some_iff.mp e
      cases e
      rw [List.length_cons, List.length_cons, evAs_len (ρ := ρ) cs h2 g2]
theorem evKs_len : ∀ (ks : List Ex) {ρ : Env} {vs : List PV} {ρ' : Env}, evKs G C ks ρ = some (vs, ρ') → vs.length = ks.length
  | [], _, _, _, h => by cases h; rfl
  | c :: cs, ρ, vs, ρ', h => by
    obtain ⟨⟨r, ρ1⟩, g1, e⟩ := Option.bind_eq_some_iff.mp (show (evE G C c ρ).bind (fun p => (evKs G C cs p.2).map fun q => (p.1.val :: q.1, q.2)) = some (vs, ρ') from h)
    obtain ⟨⟨ds, ρ2⟩, g2, e⟩ := Option.map_eq_some_iff.mp e
    cases e
    rw [List.length_cons, List.length_cons, evKs_len cs g2]
theorem okKs_facts {env : PySem.Env} {pos : Pos} : ∀ (cs : List Ex) (ks : List Keyword), okKs T N cs sc top ks = true → (backToKw pos (keywordEach ks env)).all (·.1.isSome) = true ∧ (backToKw pos (keywordEach ks env)).filterMap (·.1) = kwNames ks ∧
    (backToKw pos (keywordEach ks env)).any (·.1.isNone) = false ∧ (kwNames ks).length = cs.length
  | [], ks, h => by
    cases ks with
    | nil => exact ⟨rfl, rfl, rfl, rfl⟩
    | cons _ _ => simp [okKs] at h
  | c :: cs, ks, h => by
    cases ks with
    | nil => simp [okKs] at h
    | cons q r =>
      obtain ⟨n, x, p⟩ := q
      simp only [okKs, Bool.and_eq_true] at h
      obtain ⟨h1, h2, h3, h4⟩ := okKs_facts cs r h.2
      cases n with
      | none => simp at h
      | some n =>
        refine ⟨?_, ?_, ?_, ?_⟩
        · show (true && (backToKw pos (keywordEach r env)).all (·.1.isSome)) = true
          rw [h1]; rfl
        · show n :: (backToKw pos (keywordEach r env)).filterMap (·.1) = n :: kwNames r
          rw [h2]
        · show (false || (backToKw pos (keywordEach r env)).any (·.1.isNone)) = false
          rw [h3]; rfl
        · show (kwNames r).length + 1 = cs.length + 1
          rw [h4]
/-- f(k = v, ..) -/
theorem pe_callN0 {CX : CXT} {k n : Nat} {f : Addr} {fd : FuncData} {ps ks : List Str} {sp : Sp} {E : XK} {x : Str} {p pos : Pos} {kws : List Keyword} {tk : TA} {g : List Value → List Value → List Value} {gV : List V → List V → List V}
    (F : FnOk X.prog X.w X.K X.mg X.base CX k f fd ps sp) (hr : Room k X.A) (hg : Gl X x) (hm : X.mg x = some (.ref f)) (hk : PySem.W.keepIn X.K (.ref f) = true) (hb : KBn X.K fd ps n ks g gV) (hx : Passes CX X E)
    (hkw : PK X kws tk) (hall : (backToKw pos (keywordEach kws X.env)).all (·.1.isSome) = true) (hks : (backToKw pos (keywordEach kws X.env)).filterMap (·.1) = ks)
    (hdb : (x == ("__debug__" : Str)) = false) (hpl : (backToKw pos (keywordEach kws X.env)).any (·.1.isNone) = false) :
    PE X (.Call (.Name x p) [] kws pos) (tCallN n ks.length sp gV E tNil tk) := by
  refine ⟨fun pins s σ H Q I h => ?_⟩
  refine wpAny_Call_Name_kw (ld_glob I hg hm ?_ hdb)
  refine PySem.W.callWith_KW0 (h₀ := X.base) I.ok.mod.kin hk hall ?_ (by rw [hpl]; rfl)
  refine thn (hkw.run pos pins s σ H _ I h) fun ws s2 ⟨zs, H2, I2, rz, l1, l2, q2⟩ => ⟨I2.kIn, ?_⟩
  rw [hks]
  exact run_fnN F hr hb hx I2 .nil rz l1 l2 q2
theorem Bi.mem (b : Bi) : b.nm ∈ ["len", "int", "tuple", "list", "all", "any", "min", "max", "sum", "abs", "bool", "str", "dict", "isinstance", "range", "enumerate", "zip"] := by cases b <;> decide
theorem Bi.ne (b : Bi) : Str.ofString b.nm ≠ "__name__" := by cases b <;> decide +kernel
theorem Bi.nd (b : Bi) : (Str.ofString b.nm == ("__debug__" : Str)) = false := by cases b <;> decide +kernel
/-- inside a comprehension -/
theorem XOk.blk (k : XOk T G C N sc top X) (s : Shared) (H : Hp) (scope : Scope) (D : Addr) (cl : List (Str × Addr)) (fp : List Addr) : XOk T G C N (relS scope sc) false (X.blk s H scope (compEnvC scope cl D X.env) fp) :=
  ⟨k.hN, k.hnd, by rw [← k.hsc]; rfl, (fun h => nomatch h), k.calm, k.hu, k.glo, k.bl, k.tab, k.call, k.kw⟩
end
end EV
set_option Elab.async false
set_option linter.all false
set_option maxRecDepth 100000
namespace EV
open PySem PySem.Spec PyProof.Rows L2
section
variable {K : PySem.W.Frag}
/-! ### a table of the module -/
theorem tab_rd {w : World} {a : Addr} {kvs : List (Str × Str)} {g : Env → Option (RV × Env)} (hk : ∀ z u, kvs.lookup z = some u → KDct K w a z (.str u)) (σ : L2.St) (H : Hp) (Q : VK)
    (h : tR K (fun ρ => (g ρ).bind fun p => p.1.val.str?.bind fun z => (kvs.lookup z).map fun u => (.fz (.str u), p.2)) σ H Q) : tOp (rIxD K w) (tC (.ref a)) (tR K g) σ H Q := by
  obtain ⟨Z, pn, ρ, res, ρ', s, e, q⟩ := h
  obtain ⟨⟨r, ρ1⟩, g1, e⟩ := Option.bind_eq_some_iff.mp e
  obtain ⟨z, d1, e⟩ := Option.bind_eq_some_iff.mp e
  obtain ⟨u, d2, e⟩ := Option.map_eq_some_iff.mp e
  cases e
  refine ⟨Z, pn, ρ, r, ρ1, s, g1, fun y H2 p => ?_⟩
  obtain ⟨s2, e2, rp⟩ := p.freeze
  have hy : y = .str z := by
    cases hv : r.val with
    | str z' => rw [hv] at rp d1; cases d1; exact rp
    | _ => rw [hv] at d1; cases d1
  subst hy
  exact ⟨a, z, .str u, rfl, rfl, hk z u d2, q _ _ (PostE.pre e2 (PostE.val s2 rfl))⟩
/-! ### a call that reads lists of the caller's own -/
def LLAt (K : PySem.W.Frag) (W : AS) (σ : L2.St) (H : Hp) : List (List Bw) → List V → Prop
  | [], xs => xs = []
  | bs :: r, xs => ∃ (p : Addr) (vs xr : List V), xs = .ref p :: xr ∧ H p = some (.lst vs) ∧ ¬ W p ∧ BwsAt K W σ H bs vs ∧ LLAt K W σ H r xr
def tBL (K : PySem.W.Frag) (g : Env → Option (List (List Bw) × Env)) : TA := fun σ H Q => ∃ Z pn ρ bss ρ', SR K Z pn σ H ρ ∧ g ρ = some (bss, ρ') ∧
  ∀ xs H', SR K Z pn σ H' ρ' → Stp Z (Wof Z σ ρ) (Wof Z σ ρ') H H' → LLAt K (Wof Z σ ρ') σ H' bss xs → Q xs H'
theorem bsNil_rd (σ : L2.St) (H : Hp) (Q : List V → Hp → Prop) (h : tBL K (fun ρ => some ([], ρ)) σ H Q) : tNil σ H Q := by
  obtain ⟨Z, pn, ρ, bs, ρ', s, e, q⟩ := h
  cases e
  exact q [] H s Stp.refl rfl
theorem bsCons_rd {ge : Env → Option (List Bw × Env)} {gr : Env → Option (List (List Bw) × Env)} (σ : L2.St) (H : Hp) (Q : List V → Hp → Prop) (h : tBL K (fun ρ => (ge ρ).bind fun p => if p.1.length ≤ LIM then (gr p.2).map fun q => (p.1 :: q.1, q.2) else none) σ H Q) : tCons (tLst (tAs K ge)) (tBL K gr) σ H Q := by
  obtain ⟨Z, pn, ρ, bs, ρ', s, e, q⟩ := h
  obtain ⟨⟨cs, ρ1⟩, g1, e⟩ := Option.bind_eq_some_iff.mp e
  have e : (if cs.length ≤ LIM then (gr ρ1).map fun q => (cs :: q.1, q.2) else none) = some (bs, ρ') := e
  split at e
  · rename_i hl
    obtain ⟨⟨ds, ρ2⟩, g2, e⟩ := Option.map_eq_some_iff.mp e
    cases e
    refine ⟨Z, pn, ρ, cs, ρ1, s, g1, fun vs H1 s1 e1 at1 => ⟨by rw [at1.length, ← LIM_eq]; exact hl, fun p hp => ?_⟩⟩
    have s2 := s1.heap (upd_keeps (o := .lst vs) hp)
    have st : Stp Z (Wof Z σ ρ1) (Wof Z σ ρ1) H1 (upd H1 p (.lst vs)) := Stp.grow (upd_keeps hp) s1.zt
    have np : ¬ Wof Z σ ρ1 p := fun z => s1.wt p z hp
    refine ⟨Z, pn, ρ1, ds, ρ2, s2, g2, fun xs H2 s3 e3 at3 => q _ _ s3 ((e1.trans st).trans e3) ?_⟩
    obtain ⟨hp2, np2⟩ := e3.ext p (.lst vs) upd_same np
    exact ⟨p, vs, xs, rfl, hp2, np2, (at1.ext st.ext).ext e3.ext, at3⟩
  · cases e
section
variable {Z : AS} {pn : Nat → Option Addr} {σ : L2.St} {H H' : Hp} {ρ : Env}
theorem deref_rep {b : Bw} {x : V} {v : PV} (s : SR K Z pn σ H ρ) (h : BwAt K (Wof Z σ ρ) σ H b x) (e : deref b ρ = some v) : Rep K Z H v x := by
  have less : ∀ b, Z b → Wof Z σ ρ b := fun b q => .inl q
  cases b with
  | val w =>
    cases (show some w = some v from e)
    exact Rep.ext (Ext.less less) (show Rep K (Wof Z σ ρ) H v x from h)
  | slot i =>
    have hx : σ[i]? = some (some x) := h
    have e : peek i ρ = some v := e
    unfold peek at e
    split at e
    · rename_i u eu
      cases e
      obtain ⟨y, ey, r⟩ := s.fz i _ eu
      rw [hx] at ey
      cases ey
      exact r.ext (Ext.less less)
    · rename_i u eu
      cases e
      obtain ⟨a, ea, nz, o⟩ := s.ow i _ (.inl eu)
      rw [hx] at ea
      cases ea
      exact o.rep less nz
    · rename_i u eu
      cases e
      obtain ⟨a, ea, nz, o⟩ := s.ow i _ (.inr eu)
      rw [hx] at ea
      cases ea
      exact o.rep less nz
    · cases e
theorem derefs_reps (s : SR K Z pn σ H ρ) : ∀ {bs : List Bw} {xs : List V} {vs : List PV}, BwsAt K (Wof Z σ ρ) σ H bs xs → derefs bs ρ = some vs → Reps K Z H vs xs
  | [], _, vs, h, e => by
    cases (show [] = vs from Option.some.inj e)
    exact h
  | b :: bs, _, vs, h, e => by
    obtain ⟨x, r, e1, h1, h2⟩ := h
    obtain ⟨v, q1, e2⟩ := Option.bind_eq_some_iff.mp (show (deref b ρ).bind _ = some vs from e)
    obtain ⟨ws, q2, e3⟩ := Option.map_eq_some_iff.mp e2
    subst e3
    exact ⟨x, r, e1, deref_rep s h1 q1, derefs_reps s h2 q2⟩
theorem derefL_reps (s : SR K Z pn σ H ρ) : ∀ {bss : List (List Bw)} {xs : List V} {vs : List PV}, LLAt K (Wof Z σ ρ) σ H bss xs → derefL bss ρ = some vs → Reps K Z H vs xs
  | [], _, vs, h, e => by
    cases (show [] = vs from Option.some.inj e)
    exact h
  | bs :: bss, _, vs, h, e => by
    obtain ⟨p, us, xr, e1, hp, np, h1, h2⟩ := h
    obtain ⟨v, q1, e2⟩ := Option.bind_eq_some_iff.mp (show (derefs bs ρ).bind _ = some vs from e)
    obtain ⟨ws, q2, e3⟩ := Option.map_eq_some_iff.mp e2
    subst e3
    exact ⟨.ref p, xr, e1, ⟨p, us, rfl, .inl ⟨.inl hp, fun z => np (.inl z)⟩, derefs_reps s h1 q1⟩, derefL_reps s h2 q2⟩
theorem rep_leaf {W : AS} {v : PV} {x : V} (h : Rep K Z H' v x) (hl : v.leaf = true) : Rep K W H' v x := by
  cases v <;> first | exact h | cases hl
end
theorem reps_fz {W : AS} {H : Hp} {vs : List PV} {xs : List V} (h : Reps K W H vs xs) {i : Nat} {v : PV} (e : (vs.map fun v => (false, v))[i]? = some (false, v)) : ∃ x, xs[i]? = some x ∧ Rep K W H v x := by
  rw [List.getElem?_map] at e
  obtain ⟨u, e1, e2⟩ := Option.map_eq_some_iff.mp e
  cases e2
  exact h.get e1
theorem noTrue {vs : List PV} {i : Nat} {v : PV} : (vs.map fun v => (false, v))[i]? ≠ some (true, v) := fun e => by
  rw [List.getElem?_map] at e
  obtain ⟨u, e1, e2⟩ := Option.map_eq_some_iff.mp e
  cases e2
theorem callB_rd {C : Cl} {f n : Nat} {E : XK} {g : Env → Option (List (List Bw) × Env)} (hn : ∀ ρ bs ρ', g ρ = some (bs, ρ') → bs.length = n) (σ : L2.St) (H : Hp) (Q : VK)
    (h : tR K (fun ρ => (g ρ).bind fun p => (derefL p.1 p.2).bind fun vs => (C f (vs.map fun v => (false, v))).bind fun r => if r.1.val.leaf then some (.fz r.1.val, p.2) else none) σ H Q) : tCall (spEV K C f n) [] E (tBL K g) σ H Q := by
  obtain ⟨Z, pn, ρ, res, ρ', s, e, q⟩ := h
  obtain ⟨⟨bs, ρ1⟩, g1, e⟩ := Option.bind_eq_some_iff.mp e
  obtain ⟨vs, g2, e⟩ := Option.bind_eq_some_iff.mp e
  obtain ⟨⟨r, fin⟩, g3, e⟩ := Option.bind_eq_some_iff.mp e
  have e : (if r.val.leaf = true then some (RV.fz r.val, ρ1) else none) = some (res, ρ') := e
  split at e
  · rename_i hl
    cases e
    refine ⟨Z, pn, ρ, bs, ρ', s, g1, fun xs H1 s1 e1 at1 => ?_⟩
    show spEV K C f n (xs ++ []) H1 Q E
    rw [List.append_nil]
    have hr := derefL_reps s1 at1 g2
    have hlen : ∀ {bss : List (List Bw)} {us : List PV}, derefL bss ρ' = some us → us.length = bss.length := fun {bss} => by
      induction bss with
      | nil => intro us e; cases (show some [] = some us from e); rfl
      | cons b bss ih =>
        intro us e
        obtain ⟨v, q1, e2⟩ := Option.bind_eq_some_iff.mp (show (derefs b ρ').bind _ = some us from e)
        obtain ⟨ws, q2, e3⟩ := Option.map_eq_some_iff.mp e2
        subst e3
        rw [List.length_cons, List.length_cons, ih q2]
    have wi : ∀ b, W0 Z (vs.map fun v => (false, v)) xs b ↔ Z b := fun b => ⟨fun z => by
      rcases z with z | ⟨i, v, e, _⟩
      · exact z
      · exact absurd e noTrue, fun z => .inl z⟩
    refine ⟨Z, vs.map fun v => (false, v), r, fin, by rw [List.length_map, hlen g2]; exact hn _ _ _ g1, g3, ⟨by rw [List.length_map, hr.length], s1.zt, fun i v e => ?_, fun i v e => absurd e noTrue, fun i j v w e => absurd e noTrue⟩, fun x H' ra => ?_⟩
    · obtain ⟨x, ex, rx⟩ := reps_fz hr e
      exact ⟨x, ex, rx.iff wi⟩
    · have fin_ : Stp Z (W0 Z (vs.map fun v => (false, v)) xs) (W0 Z (vs.map fun v => (false, v)) xs) H1 H' → Rep K Z H' r.val x → Q x H' := fun st rp => by
        have keep : ∀ b o, H1 b = some o → H' b = some o := fun b o e => by
          by_cases z : Z b
          · rw [st.zk b z]; exact e
          · exact (st.ext b o e fun y => z ((wi b).mp y)).1
        exact q x H' (PostE.pre (e1.trans (Stp.grow keep s1.zt)) (PostE.val (s1.heap keep) (rep_leaf rp hl)))
      cases r with
      | fz v =>
        obtain ⟨st, rp, _⟩ := ra
        exact fin_ st (rp.iff fun b => (wi b).symm)
      | fr v =>
        obtain ⟨a, rfl, st, na, ow, _⟩ := ra
        exfalso
        cases v <;> first | exact ow | cases hl
  · cases e
end
section
variable {T : Tab} {G : List PV} {C : Cl} {N : List Str} {sc : Scope} {top : Bool} {X : Cx}
theorem evBs_len : ∀ (as : List (List (AK × Ex))) {ρ : Env} {bs : List (List Bw)} {ρ' : Env}, evBs G C as ρ = some (bs, ρ') → bs.length = as.length
  | [], _, _, _, h => by cases h; rfl
  | c :: cs, ρ, bs, ρ', h => by
    obtain ⟨⟨r, ρ1⟩, g1, e⟩ := Option.bind_eq_some_iff.mp (show (evAs G C c ρ).bind (fun p => if p.1.length ≤ LIM then (evBs G C cs p.2).map fun q => (p.1 :: q.1, q.2) else none) = some (bs, ρ') from h)
    have e : (if r.length ≤ LIM then (evBs G C cs ρ1).map fun q => (r :: q.1, q.2) else none) = some (bs, ρ') := e
    split at e
    · obtain ⟨⟨ds, ρ2⟩, g2, e⟩ := Option.map_eq_some_iff.mp e
      cases e
      rw [List.length_cons, List.length_cons, evBs_len cs g2]
    · cases e
theorem okBs_cons {c : List (AK × Ex)} {cs : List (List (AK × Ex))} {xs : List Expr} (h : okBs T N (c :: cs) sc top xs = true) : ∃ ys p r, xs = .List ys p :: r ∧ okAs T N c sc top ys = true ∧ okBs T N cs sc top r = true := by
  cases xs with
  | nil => simp [okBs] at h
  | cons x r =>
    simp only [okBs, Bool.and_eq_true] at h
    obtain ⟨h1, h2⟩ := h
    cases x with
    | List ys p => exact ⟨ys, p, r, rfl, h1, h2⟩
    | _ => cases h1
theorem anyB_plain {env : PySem.Env} {pos : Pos} : ∀ (as : List (List (AK × Ex))) (xs : List Expr), okBs T N as sc top xs = true → (backTo pos (starEach xs env)).any (·.1) = false
  | [], xs, h => by
    cases xs with
    | nil => rfl
    | cons _ _ => simp [okBs] at h
  | c :: cs, xs, h => by
    obtain ⟨ys, p, r, rfl, _, h2⟩ := okBs_cons h
    show (false || (backTo pos (starEach r env)).any (·.1)) = false
    rw [anyB_plain cs r h2]
    rfl
end
end EV
set_option Elab.async false
set_option linter.all false
set_option maxRecDepth 100000
namespace EV
open PySem PySem.Spec PyProof.Rows L2
section
variable {T : Tab} {G : List PV} {C : Cl} {N : List Str}
/-- a new list, so many times -/
theorem rep_reps {K : PySem.W.Frag} {W : AS} {H : Hp} {xs : List PV} {vs : List V} (r : Reps K W H xs vs) : ∀ n : Nat, Reps K W H (List.replicate n xs).flatten (List.replicate n vs).flatten
  | 0 => rfl
  | n + 1 => by
    rw [List.replicate_succ, List.replicate_succ, List.flatten_cons, List.flatten_cons]
    exact r.app (rep_reps r n)
theorem rep_rd {K : PySem.W.Frag} {ga gn : Env → Option (RV × Env)} (σ : L2.St) (H : Hp) (Q : VK) (h : tR K (fun ρ => (ga ρ).bind fun p => match p.1 with
    | .fr (.lst xs) => (gn p.2).bind fun q => q.1.val.int?.bind fun k => if 0 ≤ k ∧ k ≤ 1000000 ∧ xs.length * k.toNat ≤ LIM then some (.fr (.lst (List.replicate k.toNat xs).flatten), q.2) else none
    | _ => none) σ H Q) : tOp rRep (tR K ga) (tR K gn) σ H Q := by
  obtain ⟨Z, pn, ρ, res, ρ', s, e, q⟩ := h
  obtain ⟨⟨r1, ρ1⟩, g1, e⟩ := Option.bind_eq_some_iff.mp e
  cases r1 with
  | fz v => cases e
  | fr v =>
    cases v with
    | lst xs =>
      obtain ⟨⟨r2, ρ2⟩, g2, e⟩ := Option.bind_eq_some_iff.mp (show ((gn ρ1).bind fun q => q.1.val.int?.bind fun k => if 0 ≤ k ∧ k ≤ 1000000 ∧ xs.length * k.toNat ≤ LIM then some (RV.fr (.lst (List.replicate k.toNat xs).flatten), q.2) else none) = some (res, ρ') from e)
      obtain ⟨k, g3, e⟩ := Option.bind_eq_some_iff.mp e
      split at e
      · rename_i hk
        obtain ⟨k0, k1, k2⟩ := hk
        cases e
        refine ⟨Z, pn, ρ, .fr (.lst xs), ρ1, s, g1, fun x H1 p => ?_⟩
        obtain ⟨a0, rfl, s1, st1, na, vs, hv, rv⟩ := p
        refine ⟨plus Z a0, pn, ρ1, r2, ρ2, s1, g2, fun y H2 p2 => ?_⟩
        obtain ⟨s2, st2, ry⟩ := p2.freeze
        have hy : y = .int k := by
          cases hr : r2.val with
          | int i =>
            rw [hr] at g3 ry
            cases g3
            exact ry
          | _ => rw [hr] at g3; cases g3
        have rv2 : Reps K (Wof Z σ ρ2) H2 xs vs := (rv.ext st2.ext).ext (Ext.less Wof.plus_sub)
        have s3 : SR K Z pn σ H2 ρ2 := s2.less fun b z => .inl z
        have st : Stp Z (Wof Z σ ρ) (Wof Z σ ρ2) H H2 := st1.trans ((⟨st2.ext, fun b z => st2.zk b (.inl z)⟩ : Stp Z _ _ H1 H2).trans (Stp.less Wof.plus_sub))
        refine ⟨a0, k, vs, rfl, hy, by rw [st2.zk a0 (.inr rfl)]; exact hv, by omega, by omega, by rw [rv.length, ← LIM_eq]; exact k2, fun p hp => q (.ref p) _ ((PostE.lst s3 (rep_reps rv2 k.toNat) hp).pre st)⟩
      · cases e
    | _ => cases e
/-- what is shown of an expression -/
def SE (T : Tab) (G : List PV) (C : Cl) (N : List Str) (c : Ex) : Prop := ∀ (sc : Scope) (top : Bool) (X : Cx), XOk T G C N sc top X → ∀ e, okE T N c sc top e = true → PE X e (tR X.K (evE G C c)) ∧ (testable e = true → PT X e (tT X.K fun ρ => tst (evE G C c ρ)))
def SAs (T : Tab) (G : List PV) (C : Cl) (N : List Str) (cs : List (AK × Ex)) : Prop := ∀ (sc : Scope) (top : Bool) (X : Cx), XOk T G C N sc top X → ∀ es, okAs T N cs sc top es = true → PA X es (tAs X.K (evAs G C cs))
def SL (T : Tab) (G : List PV) (C : Cl) (N : List Str) (cs : List Ex) : Prop := ∀ (sc : Scope) (top : Bool) (X : Cx), XOk T G C N sc top X → ∀ es pos, okL T N cs sc top es = true →
  (PE X (.BoolOp .And es pos) (tR X.K (evAnd G C cs)) ∧ PW X (.BoolOp .And es pos) (tT X.K fun ρ => tst (evAnd G C cs ρ))) ∧
  (PE X (.BoolOp .Or es pos) (tR X.K (evOr G C cs)) ∧ PW X (.BoolOp .Or es pos) (tT X.K fun ρ => tst (evOr G C cs ρ)))
def SKs (T : Tab) (G : List PV) (C : Cl) (N : List Str) (cs : List Ex) : Prop := ∀ (sc : Scope) (top : Bool) (X : Cx), XOk T G C N sc top X → ∀ es, okKs T N cs sc top es = true → PK X es (tKs X.K (evKs G C cs))
def SBs (T : Tab) (G : List PV) (C : Cl) (N : List Str) (cs : List (List (AK × Ex))) : Prop := ∀ (sc : Scope) (top : Bool) (X : Cx), XOk T G C N sc top X → ∀ es, okBs T N cs sc top es = true → PA X es (tBL X.K (evBs G C cs))
def STs (T : Tab) (G : List PV) (C : Cl) (N : List Str) (cs : List Ex) : Prop := ∀ (sc : Scope) (X : Cx), XOk T G C N sc false X → ∀ es, okTs T N cs sc es = true → PTs X es (tT X.K (evTs G C cs))
def SO (T : Tab) (G : List PV) (C : Cl) (N : List Str) (c : Option Ex) : Prop := ∀ (sc : Scope) (top : Bool) (X : Cx), XOk T G C N sc top X → ∀ e, okO T N c sc top e = true → PO X e (tP X.K (evO G C c))
def SI (T : Tab) (G : List PV) (C : Cl) (N : List Str) (c : It) : Prop := ∀ (sc : Scope) (top : Bool) (X : Cx), XOk T G C N sc top X → ∀ tg e, okI T N c sc top tg e = true → PI X tg e (tI X.K (evI G C c))
variable {sc : Scope} {top : Bool} {X : Cx}
/-- a value that stands plainly as a test -/
theorem both {e : Expr} {g : Env → Option (RV × Env)} (h : PE X e (tR X.K g)) (hp : ∀ whole, isTrue e X.env whole = (do let v ← whole; standAt e.pos; holding [v] (PySem.truthy v))) : PE X e (tR X.K g) ∧ (testable e = true → PT X e (tT X.K fun ρ => tst (g ρ))) :=
  ⟨h, fun _ => pt_imp (pt_truth h hp) tru_rd⟩
theorem nomark {op : CmpOp} {e : Expr} (h : isSet e = false) : behindInMarks op e = false := by
  cases e <;> first | rfl | (exfalso; simp [isSet] at h)
theorem plainIx {e : Expr} (h : isSlice e = false) : PlainIx e := by
  cases e <;> first | (intro o i; rfl) | (exfalso; simp [isSlice] at h)
theorem nofold {e : Expr} (h : isSet e = false) (env : PySem.Env) (x : Value) : foldedSetIterable e env x = pure x := by
  cases e <;> first | rfl | (exfalso; simp [isSet] at h)
theorem bw_of (k : XOk T G C N sc top X) {c : Ex} {e : Expr} (h : okE T N c sc top e = true) (hE : PE X e (tR X.K (evE G C c))) : PE X e (tB X.K fun ρ => bw c (evE G C c ρ) ρ) := by
  refine pe_bw hE fun i hi => ?_
  subst hi
  cases e with
  | Name x pos =>
    simp only [okE, Bool.and_eq_true] at h
    exact pe_varT k h.1.1 h.1.2 h.2
  | _ => simp [okE] at h
theorem PT.ofPW {e : Expr} {t : TT} (h : PW X e t) : PT X e t := ⟨fun pins s σ H Q I q => h.run _ pins s σ H Q I q⟩
theorem hdb {x : Str} (h : nameB x = true) : (x == ("__debug__" : Str)) = false := nameB_1 h
set_option maxHeartbeats 4000000
mutual
theorem sE : ∀ c : Ex, SE T G C N c
  | .lit v => fun sc top X k e h => by
    cases e with
    | Constant c j pos => exact both (pe_lit h) (fun _ => rfl)
    | _ => simp [okE] at h
  | .glo n => fun sc top X k e h => by
    cases e with
    | Name x pos =>
      simp only [okE, Bool.and_eq_true] at h
      exact both (pe_glo k h.1.1 h.1.2 h.2) (fun _ => rfl)
    | _ => simp [okE] at h
  | .var i => fun sc top X k e h => by
    cases e with
    | Name x pos =>
      simp only [okE, Bool.and_eq_true] at h
      exact both (pe_varR k h.1.1 h.1.2 h.2) (fun _ => rfl)
    | _ => simp [okE] at h
  | .take i => fun sc top X k e h => by
    cases e with
    | Name x pos =>
      simp only [okE, Bool.and_eq_true] at h
      exact both (pe_takeR k h.1.1 h.1.2 h.2) (fun _ => rfl)
    | _ => simp [okE] at h
  | .tup es => fun sc top X k e h => by
    cases e with
    | Tuple xs kk pos => exact both (pe_imp (pe_tup (sAs es sc top X k xs h)) tup_rd) (fun _ => rfl)
    | _ => simp [okE] at h
  | .lst es => fun sc top X k e h => by
    cases e with
    | List xs pos => exact both (pe_imp (pe_lst (sAs es sc top X k xs h)) lst_rd) (fun _ => rfl)
    | _ => simp [okE] at h
  | .rep a n => fun sc top X k e h => by
    unfold okE at h
    split at h
    · rename_i x y pos
      obtain ⟨h1, h2⟩ := Bool.and_eq_true_iff.mp h
      exact both (pe_imp (pe_op op_rep (sE a sc top X k x h1).1 (sE n sc top X k y h2).1) rep_rd) (fun _ => rfl)
    · cases h
  | .bin op a b => fun sc top X k e h => by
    cases e with
    | BinOp x o y pos =>
      simp only [okE, Bool.and_eq_true] at h
      have e1 : o = op.op := by simpa using h.1.1
      subst e1
      obtain ⟨r, ho, ok⟩ := bin_any (X := X) op
      exact both (pe_imp (pe_op ho (bw_of k h.1.2 (sE a sc top X k x h.1.2).1) (bw_of k h.2 (sE b sc top X k y h.2).1)) (two_rd (ga := fun ρ => bw a (evE G C a ρ) ρ) (gb := fun ρ => bw b (evE G C b ρ) ρ) ok)) (fun _ => rfl)
    | _ => simp [okE] at h
  | .neg a => fun sc top X k e h => by
    cases e with
    | UnaryOp o x pos =>
      cases o with
      | USub => exact both (pe_imp (pe_un un_neg (sE a sc top X k x h).1) neg_rd) (fun _ => rfl)
      | _ => simp [okE] at h
    | _ => simp [okE] at h
  | .cmp op a b => fun sc top X k e h => by
    cases e with
    | Compare x ops ys pos =>
      match ops, ys, h with
      | [o], [y], h =>
        simp only [okE, Bool.and_eq_true, Bool.not_eq_true'] at h
        have e1 : o = op.op := by simpa using h.1.1.1
        subst e1
        obtain ⟨r, ho, ok⟩ := cmp_any (X := X) k.hu op
        have ha := bw_of k h.1.2 (sE a sc top X k x h.1.2).1
        have hb := bw_of k h.2 (sE b sc top X k y h.2).1
        have rd : ∀ σ H Q, tR X.K (evE G C (.cmp op a b)) σ H Q → tOp r (tB X.K fun ρ => bw a (evE G C a ρ) ρ) (tB X.K fun ρ => bw b (evE G C b ρ) ρ) σ H Q := fun σ H Q q => two_rd ok σ H Q (by
          obtain ⟨Z, pn, ρ, res, ρ', s, e, q⟩ := q
          refine ⟨Z, pn, ρ, res, ρ', s, ?_, q⟩
          obtain ⟨p, g1, e⟩ := Option.bind_eq_some_iff.mp (show (bw a (evE G C a ρ) ρ).bind _ = some (res, ρ') from e)
          obtain ⟨p2, g2, e⟩ := Option.bind_eq_some_iff.mp e
          obtain ⟨x1, d1, e⟩ := Option.bind_eq_some_iff.mp e
          obtain ⟨y1, d2, e⟩ := Option.bind_eq_some_iff.mp e
          obtain ⟨b1, c1, e⟩ := Option.map_eq_some_iff.mp e
          cases e
          refine Option.bind_eq_some_iff.mpr ⟨p, g1, Option.bind_eq_some_iff.mpr ⟨p2, g2, Option.bind_eq_some_iff.mpr ⟨x1, d1, Option.bind_eq_some_iff.mpr ⟨y1, d2, ?_⟩⟩⟩⟩
          show (cmpF op x1 y1).map _ = _
          unfold cmpF
          rw [c1]
          rfl)
        refine ⟨pe_imp (pe_cmpR ho ha hb (nomark h.1.1.2)) rd, fun _ => pt_imp (pt_cmpR ho ha hb (nomark h.1.1.2)) (test_rd rd fun ρ r ρ' e => ?_)⟩
        obtain ⟨p, g1, e⟩ := Option.bind_eq_some_iff.mp (show (bw a (evE G C a ρ) ρ).bind _ = some (r, ρ') from e)
        obtain ⟨p2, g2, e⟩ := Option.bind_eq_some_iff.mp e
        obtain ⟨x1, d1, e⟩ := Option.bind_eq_some_iff.mp e
        obtain ⟨y1, d2, e⟩ := Option.bind_eq_some_iff.mp e
        obtain ⟨b1, c1, e⟩ := Option.map_eq_some_iff.mp e
        cases e
        exact ⟨b1, rfl⟩
      | [], _, h => simp [okE] at h
      | _ :: _ :: _, _, h => simp [okE] at h
      | [_], [], h => simp [okE] at h
      | [_], _ :: _ :: _, h => simp [okE] at h
    | _ => simp [okE] at h
  | .chain op op' a b c => fun sc top X k e h => by
    cases e with
    | Compare x ops ys pos =>
      match ops, ys, h with
      | [o, o'], [y, z], h =>
        simp only [okE, Bool.and_eq_true, Bool.not_eq_true'] at h
        have e1 : o = op.op := by simpa using h.1.1.1.1.1
        have e2 : o' = op'.op := by simpa using h.1.1.1.1.2
        subst e1 e2
        obtain ⟨r, ho, ok⟩ := cmp_any (X := X) k.hu op
        obtain ⟨r', ho', ok'⟩ := cmp_any (X := X) k.hu op'
        have ha := (sE a sc top X k x h.1.1.2).1
        have hb := (sE b sc top X k y h.1.2).1
        have hc := (sE c sc top X k z h.2).1
        have hm : lastMarks [op.op, op'.op] [y, z] = false := nomark h.1.1.1.2
        refine ⟨pe_imp (pe_chain ho ho' ha hb hc hm) (chain_rd ok ok'), fun _ => pt_imp (pt_chain ho ho' ha hb hc hm) (test_rd (chain_rd ok ok') fun ρ r ρ' e => ?_)⟩
        obtain ⟨p, g1, e⟩ := Option.bind_eq_some_iff.mp (show (evE G C a ρ).bind _ = some (r, ρ') from e)
        obtain ⟨p2, g2, e⟩ := Option.bind_eq_some_iff.mp e
        obtain ⟨kk, c1, e⟩ := Option.bind_eq_some_iff.mp e
        cases kk with
        | false => simp only [Bool.false_eq_true, if_false] at e; cases e; exact ⟨false, rfl⟩
        | true =>
          simp only [if_true] at e
          obtain ⟨p3, g3, e⟩ := Option.bind_eq_some_iff.mp e
          obtain ⟨b1, c2, e⟩ := Option.map_eq_some_iff.mp e
          cases e
          exact ⟨b1, rfl⟩
      | [], _, h => simp [okE] at h
      | [_], _, h => simp [okE] at h
      | _ :: _ :: _ :: _, _, h => simp [okE] at h
      | [_, _], [], h => simp [okE] at h
      | [_, _], [_], h => simp [okE] at h
      | [_, _], _ :: _ :: _ :: _, h => simp [okE] at h
    | _ => simp [okE] at h
  | .ands es => fun sc top X k e h => by
    cases e with
    | BoolOp o xs pos =>
      cases o with
      | And => exact ⟨(sL es sc top X k xs pos h).1.1, fun _ => (sL es sc top X k xs pos h).1.2.pt⟩
      | Or => simp [okE] at h
    | _ => simp [okE] at h
  | .ors es => fun sc top X k e h => by
    cases e with
    | BoolOp o xs pos =>
      cases o with
      | Or => exact ⟨(sL es sc top X k xs pos h).2.1, fun _ => (sL es sc top X k xs pos h).2.2.pt⟩
      | And => simp [okE] at h
    | _ => simp [okE] at h
  | .not a => fun sc top X k e h => by
    cases e with
    | UnaryOp o x pos =>
      cases o with
      | Not =>
        simp only [okE, Bool.and_eq_true] at h
        obtain ⟨h1, h2⟩ := sE a sc top X k x h.2
        exact ⟨pe_imp (pe_notT h1) (fun σ H Q q => notV_rd σ H Q (by
          obtain ⟨Z, pn, ρ, res, ρ', s, e, q⟩ := q
          exact ⟨Z, pn, ρ, res, ρ', s, e, q⟩)), fun _ => pt_imp (pt_not (h2 h.1)) notT_rd⟩
      | _ => simp [okE] at h
    | _ => simp [okE] at h
  | .ite c a b => fun sc top X k e h => by
    cases e with
    | IfExp t x y pos =>
      simp only [okE, Bool.and_eq_true] at h
      exact ⟨pe_imp (pe_ifExp ((sE c sc top X k t h.1.1.2).2 h.1.1.1) (sE a sc top X k x h.1.2).1 (sE b sc top X k y h.2).1) ite_rd, fun z => nomatch z⟩
    | _ => simp [okE] at h
  | .idx a i => fun sc top X k e h => by
    cases e with
    | Subscript x y pos =>
      simp only [okE, Bool.and_eq_true, Bool.not_eq_true'] at h
      exact both (pe_imp (pe_ix (ix_list.or ix_tup) (bw_of k h.1.2 (sE a sc top X k x h.1.2).1) (sE i sc top X k y h.2).1 (plainIx h.1.1)) idx_rd) (fun _ => rfl)
    | _ => simp [okE] at h
  | .slc a lo hi => fun sc top X k e h => by
    cases e with
    | Subscript x y pos =>
      cases y with
      | Slice l u st p =>
        cases st with
        | none =>
          simp only [okE, Bool.and_eq_true] at h
          exact both (pe_imp (pe_slice (sl_list.or sl_tupA) (bw_of k h.1.1 (sE a sc top X k x h.1.1).1) (sO lo sc top X k l h.1.2) (sO hi sc top X k u h.2)) slc_rd) (fun _ => rfl)
        | some _ => simp [okE] at h
      | _ => simp [okE] at h
    | _ => simp [okE] at h
  | .rev a => fun sc top X k e h => by
    unfold okE at h
    split at h
    · rename_i x j _ _ _ _ _
      rw [Bool.and_eq_true] at h
      have e1 : j = 1 := by simpa using h.1
      subst e1
      exact both (pe_imp (pe_revL (bw_of k h.2 (sE a sc top X k x h.2).1)) rev_rd) (fun _ => rfl)
    · cases h
  | .call f args => fun sc top X k e h => by
    unfold okE at h
    split at h
    · rename_i x _ xs _
      simp only [Bool.and_eq_true] at h
      obtain ⟨⟨⟨⟨h1, hg⟩, hn⟩, hs⟩, ha⟩ := h
      split at h1
      · rename_i y ps hf
        rw [Bool.and_eq_true] at h1
        have e1 : y = x := by simpa using h1.1
        have e2 : ps.length = args.length := by simpa using h1.2
        subst e1
        obtain ⟨kk, a, fd, F, hr, hm, hk, hb⟩ := k.call f y ps hf
        have pa := sAs args sc top X k xs ha
        have rd := call_rd (K := X.K) (C := C) (f := f) (n := ps.length) (E := fun _ _ _ => False) (g := evAs G C args) (fun ρ bs ρ' q => by rw [e2]; exact evAs_len (ρ := ρ) args hs q)
        cases xs with
        | nil =>
          cases args with
          | nil => exact both (pe_imp (pe_call0 F hr (k.gl hg) hm hk hb .nil pass0 (nameB_1 hn)) fun σ H Q q => by
              have := rd σ H Q q
              exact asNil_rd σ H _ this) (fun _ => rfl)
          | cons _ _ => simp [okAs] at ha
        | cons x1 xr =>
          cases args with
          | nil => simp [okAs] at ha
          | cons c1 cr =>
            obtain ⟨kk1, cc1⟩ := c1
            obtain ⟨hk1, hk2⟩ := noStar_cons hs
            obtain ⟨g1, g2, g3⟩ := okAs_plain hk1 ha
            exact both (pe_imp (pe_call F hr (k.gl hg) hm hk hb .nil pass0 pa (nameB_1 hn) (starEach_plain g1) (any_plain cr xr hk2 g3)) rd) (fun _ => rfl)
      · cases h1
    · cases h
  | .callK f args kws order => fun sc top X k e h => by
    unfold okE at h
    split at h
    · rename_i x _ xs ks _
      simp only [Bool.and_eq_true] at h
      obtain ⟨⟨⟨⟨⟨⟨h1, h2⟩, hg⟩, hn⟩, hs⟩, ha⟩, hkw⟩ := h
      obtain ⟨ps, hf⟩ : ∃ ps, T.fns[f]? = some (x, ps) := by
        cases q : T.fns[f]? with
        | none => rw [q] at h1; simp at h1
        | some p =>
          obtain ⟨y, ps⟩ := p
          rw [q] at h1
          have : y = x := by simpa using h1
          subst this
          exact ⟨ps, rfl⟩
      obtain ⟨⟨kk, a, fd, F, hr, hm, hk, hb⟩, ho⟩ := k.kw f x ps args.length (kwNames ks) order hf h2
      have pa := sAs args sc top X k xs ha
      have pk := sKs kws sc top X k ks hkw
      obtain ⟨f1, f2, f3, f4⟩ := okKs_facts (env := X.env) (pos := ‹Pos›) kws ks hkw
      have rd := callK_rd (K := X.K) (C := C) (f := f) (np := ps.length) (n := args.length) (m := (kwNames ks).length) (order := order) (E := fun _ _ _ => False) (g := evAs G C args) (gk := evKs G C kws) (fun ρ bs ρ' q => evAs_len (ρ := ρ) args hs q) (fun ρ vs ρ' q => by rw [f4]; exact evKs_len kws q) ho
      cases xs with
      | nil =>
        cases args with
        | nil => exact both (pe_imp (pe_callN0 F hr (k.gl hg) hm hk hb pass0 pk f1 f2 (nameB_1 hn) f3) fun σ H Q q => by
            have := rd σ H Q q
            exact asNil_rd σ H _ this) (fun _ => rfl)
        | cons _ _ => simp [okAs] at ha
      | cons x1 xr =>
        cases args with
        | nil => simp [okAs] at ha
        | cons c1 cr =>
          obtain ⟨kk1, cc1⟩ := c1
          obtain ⟨hk1, hk2⟩ := noStar_cons hs
          obtain ⟨g1, g2, g3⟩ := okAs_plain hk1 ha
          exact both (pe_imp (pe_callN F hr (k.gl hg) hm hk hb pass0 pa pk f1 f2 (nameB_1 hn) (starEach_plain g1) (by rw [any_plain _ _ hs ha, f3]; rfl)) rd) (fun _ => rfl)
    · cases h
  | .bi b args => fun sc top X k e h => by
    unfold okE at h
    split at h
    · rename_i x _ xs _
      simp only [Bool.and_eq_true] at h
      obtain ⟨⟨⟨⟨h1, hg⟩, hne⟩, hs⟩, ha⟩ := h
      have e1 : x = Str.ofString b.nm := by simpa using h1
      subst e1
      obtain ⟨r, hr, ok⟩ := bi_rule (X := X) k.calm b
      have pa := sAs args sc top X k xs ha
      cases xs with
      | nil => simp at hne
      | cons x1 xr =>
        cases args with
        | nil => simp [okAs] at ha
        | cons c1 cr =>
          obtain ⟨kk1, cc1⟩ := c1
          obtain ⟨hk1, hk2⟩ := noStar_cons hs
          obtain ⟨g1, g2, g3⟩ := okAs_plain hk1 ha
          have hv := bi_boot b
          unfold Bi.val at hr hv
          by_cases ht : b.isTy = true
          · rw [if_pos ht] at hr hv
            exact both (pe_imp (pe_callTy hr (k.gl hg) (k.bl _ b.mem) hv pa b.ne b.nd (starEach_plain g1) (any_plain cr xr hk2 g3)) (bi_rd ok)) (fun _ => rfl)
          · rw [if_neg ht] at hr hv
            exact both (pe_imp (pe_callB hr (k.gl hg) (k.bl _ b.mem) hv pa b.ne b.nd (starEach_plain g1) (any_plain cr xr hk2 g3)) (bi_rd ok)) (fun _ => rfl)
    · cases h
  | .isi a tys => fun sc top X k e h => by
    unfold okE at h
    split at h
    · rename_i x _ y t _
      simp only [Bool.and_eq_true, Bool.not_eq_true'] at h
      obtain ⟨⟨⟨⟨h1, hg⟩, ha⟩, hs⟩, ht⟩ := h
      have e1 : x = ("isinstance" : Str) := by simpa using h1
      subst e1
      have pa := bw_of k ha (sE a sc top X k y ha).1
      have hm : X.mg "isinstance" = none := k.bl "isinstance" (by decide)
      split at ht
      · rename_i ts _ _
        rw [Bool.and_eq_true] at ht
        obtain ⟨hl, ht⟩ := ht
        have hl : tys.length ≤ 100 := by simpa using hl
        exact both (pe_imp (pe_callB (CallR.or call_isi call_isiT) (k.gl hg) hm boot_isinstance (pa_cons pa (pa_cons (pe_tup (pa_tys k tys ts ht)) pa_nil (starEach_plain rfl)) (starEach_plain hs)) (by decide) (by decide) (starEach_plain hs) (by rw [starEach_plain rfl]; rfl)) fun σ H Q q => by
          exact isi_rdT hl σ H Q q) (fun _ => rfl)
      · match tys, ht with
        | [], ht => simp [tysB] at ht
        | _ :: _ :: _, ht => simp [tysB] at ht
        | [t1], ht =>
          have ht : tyB sc t1 t = true := by simpa [tysB] using ht
          exact both (pe_imp (pe_callB (CallR.or call_isi call_isiT) (k.gl hg) hm boot_isinstance (pa_cons pa (pa_cons (pe_ty k ht) pa_nil (starEach_plain (tyB_plain ht))) (starEach_plain hs)) (by decide) (by decide) (starEach_plain hs) (by rw [starEach_plain (tyB_plain ht)]; rfl)) isi_rd1) (fun _ => rfl)
    · cases h
  | .rng1 t a => fun sc top X k e h => by
    unfold okE at h
    split at h
    · rename_i x _ y _ z _ _
      simp only [Bool.and_eq_true, Bool.not_eq_true'] at h
      obtain ⟨⟨⟨⟨⟨h1, h2⟩, h3⟩, h4⟩, h5⟩, h6⟩ := h
      have e2 : y = ("range" : Str) := by simpa using h2
      subst e2
      have pr := prg_1 (p := ‹Pos›) (pos := ‹Pos›) (k.gl h4) (k.bl "range" (by decide)) (sE a sc top X k z h6).1 (starEach_plain h5)
      cases t with
      | true =>
        have e1 : x = ("tuple" : Str) := by simpa using h1
        subst e1
        exact both (pe_imp (pe_tupRg k.calm (k.gl h3) (k.bl "tuple" (by decide)) (prg_1 (k.gl h4) (k.bl "range" (by decide)) (sE a sc top X k z h6).1 (starEach_plain h5)) (starEach_plain rfl)) (rng1_rd (t := true))) (fun _ => rfl)
      | false =>
        have e1 : x = ("list" : Str) := by simpa using h1
        subst e1
        exact both (pe_imp (pe_listRg k.calm (k.gl h3) (k.bl "list" (by decide)) (prg_1 (k.gl h4) (k.bl "range" (by decide)) (sE a sc top X k z h6).1 (starEach_plain h5)) (starEach_plain rfl)) (rng1_rd (t := false))) (fun _ => rfl)
    · cases h
  | .rng2 t a b => fun sc top X k e h => by
    unfold okE at h
    split at h
    · rename_i x _ y _ z u _ _
      simp only [Bool.and_eq_true, Bool.not_eq_true'] at h
      obtain ⟨⟨⟨⟨⟨⟨⟨h1, h2⟩, h3⟩, h4⟩, h5⟩, h6⟩, h7⟩, h8⟩ := h
      have e2 : y = ("range" : Str) := by simpa using h2
      subst e2
      have hp : ∀ pos : Pos, (backTo pos (starEach [u] X.env)).any (·.1) = false := fun pos => by rw [starEach_plain h6]; rfl
      cases t with
      | true =>
        have e1 : x = ("tuple" : Str) := by simpa using h1
        subst e1
        exact both (pe_imp (pe_tupRg k.calm (k.gl h3) (k.bl "tuple" (by decide)) (prg_2 (k.gl h4) (k.bl "range" (by decide)) (sE a sc top X k z h7).1 (sE b sc top X k u h8).1 (starEach_plain h5) (starEach_plain h6) (hp _)) (starEach_plain rfl)) (rng2_rd (t := true))) (fun _ => rfl)
      | false =>
        have e1 : x = ("list" : Str) := by simpa using h1
        subst e1
        exact both (pe_imp (pe_listRg k.calm (k.gl h3) (k.bl "list" (by decide)) (prg_2 (k.gl h4) (k.bl "range" (by decide)) (sE a sc top X k z h7).1 (sE b sc top X k u h8).1 (starEach_plain h5) (starEach_plain h6) (hp _)) (starEach_plain rfl)) (rng2_rd (t := false))) (fun _ => rfl)
    · cases h
  | .comp elt own pt it tests => fun sc top X k e h => by
    unfold okE at h
    split at h
    · rename_i x tg iter ifs a scope _
      simp only [Bool.and_eq_true, Bool.not_eq_true'] at h
      obtain ⟨⟨⟨⟨⟨⟨⟨h1, h2⟩, h3⟩, h4⟩, h5⟩, h6⟩, h7⟩, h8⟩ := h
      have e1 : a = 0 := by simpa using h1
      subst e1
      have hown : (ownL N own).map (·.2) = own := by unfold ownL; rw [List.map_map]; exact List.map_id own
      have ok : BlkOk X.N X.env.scope scope (ownL N own) := by rw [k.hN, k.hsc]; exact blkOk_by h2
      have pe := pe_lc (pos := ‹Pos›) (te := tR X.K (evE G C elt)) (tt := tT X.K (evTs G C tests)) (g := tG X.K pt) k.calm (by rw [k.hN]; exact k.hnd) (sI it sc top X k tg iter h6) ok
        (fun s H D cl fp => pg_any (k.blk s H scope D cl fp) pt tg h4) (fun s H D cl fp => sTs tests _ _ (k.blk s H scope D cl fp) ifs h7)
        (fun s H D cl fp => (sE elt _ _ _ (k.blk s H scope D cl fp) x h8).1) (nofold h5 X.env)
      rw [hown] at pe
      exact both (pe_imp pe (lc_rd fun j hj => by
        have := List.all_eq_true.mp h3 j hj
        simpa using this)) (fun _ => rfl)
    · cases h
  | .tab n kvs i => fun sc top X k e h => by
    unfold okE at h
    split at h
    · rename_i x _ y _
      simp only [Bool.and_eq_true, Bool.not_eq_true'] at h
      obtain ⟨⟨⟨⟨h1, hg⟩, hn⟩, hs⟩, hi⟩ := h
      obtain ⟨a, hm, hk⟩ := k.tab n x kvs (by simpa using h1)
      exact both (pe_imp (pe_ix ix_kdict (pe_glob (k.gl hg) hm (show RelV (.ref a) (.ref a) from rfl) (nameB_1 hn)) (sE i sc top X k y hi).1 (plainIx hs)) (tab_rd hk)) (fun _ => rfl)
    · cases h
  | .callB f args => fun sc top X k e h => by
    unfold okE at h
    split at h
    · rename_i x _ xs _
      simp only [Bool.and_eq_true] at h
      obtain ⟨⟨⟨⟨h1, hg⟩, hn⟩, hs⟩, ha⟩ := h
      split at h1
      · rename_i y ps hf
        rw [Bool.and_eq_true] at h1
        have e1 : y = x := by simpa using h1.1
        have e2 : ps.length = args.length := by simpa using h1.2
        subst e1
        obtain ⟨kk, a, fd, F, hr, hm, hk, hb⟩ := k.call f y ps hf
        have pa := sBs args sc top X k xs ha
        have rd := callB_rd (K := X.K) (C := C) (f := f) (n := ps.length) (E := fun _ _ _ => False) (g := evBs G C args) (fun ρ bs ρ' q => by rw [e2]; exact evBs_len args q)
        cases args with
        | nil => cases xs with
          | nil => simp at hs
          | cons _ _ => simp [okBs] at ha
        | cons c1 cr =>
          obtain ⟨ys, p, r, rfl, g1, g2⟩ := okBs_cons ha
          exact both (pe_imp (pe_call F hr (k.gl hg) hm hk hb .nil pass0 pa (nameB_1 hn) (starEach_plain rfl) (anyB_plain cr r g2)) rd) (fun _ => rfl)
      · cases h1
    · cases h
theorem sBs : ∀ cs : List (List (AK × Ex)), SBs T G C N cs
  | [] => fun sc top X k es h => by
    cases es with
    | nil => exact pa_imp pa_nil bsNil_rd
    | cons _ _ => simp [okBs] at h
  | c :: cs => fun sc top X k es h => by
    obtain ⟨ys, p, r, rfl, g1, g2⟩ := okBs_cons h
    exact pa_imp (pa_cons (pe_lst (sAs c sc top X k ys g1)) (sBs cs sc top X k r g2) (starEach_plain rfl)) bsCons_rd
theorem sAs : ∀ cs : List (AK × Ex), SAs T G C N cs
  | [] => fun sc top X k es h => by
    cases es with
    | nil => exact pa_imp pa_nil asNil_rd
    | cons _ _ => simp [okAs] at h
  | (kk, c) :: cs => fun sc top X k es h => by
    cases es with
    | nil => simp [okAs] at h
    | cons x r =>
      cases kk with
      | val =>
        obtain ⟨g1, g2, g3⟩ := okAs_plain (by decide) h
        exact pa_imp (pa_cons (sE c sc top X k x g2).1 (sAs cs sc top X k r g3) (starEach_plain g1)) asCons_rd
      | ref =>
        obtain ⟨g1, g2, g3⟩ := okAs_plain (by decide) h
        exact pa_imp (pa_cons (bw_of k g2 (sE c sc top X k x g2).1) (sAs cs sc top X k r g3) (starEach_plain g1)) asRef_rd
      | star =>
        simp only [okAs, Bool.and_eq_true] at h
        obtain ⟨h1, h2⟩ := h
        split at h1
        · rename_i y _
          exact pa_imp (StX.pa_star (sE c sc top X k y h1).1 (sAs cs sc top X k r h2)) asStar_rd
        · cases h1
theorem sL : ∀ cs : List Ex, SL T G C N cs
  | [] => fun sc top X k es pos h => by
    refine ⟨⟨⟨fun pins s σ H Q I q => ?_⟩, ⟨fun wh pins s σ H Q I q => ?_⟩⟩, ⟨⟨fun pins s σ H Q I q => ?_⟩, ⟨fun wh pins s σ H Q I q => ?_⟩⟩⟩
    · obtain ⟨_, _, _, _, _, _, e, _⟩ := q; cases e
    · obtain ⟨_, _, _, _, _, _, e, _⟩ := q; cases e
    · obtain ⟨_, _, _, _, _, _, e, _⟩ := q; cases e
    · obtain ⟨_, _, _, _, _, _, e, _⟩ := q; cases e
  | [c] => fun sc top X k es pos h => by
    match es, h with
    | [], h => simp [okL] at h
    | _ :: _ :: _, h => simp [okL] at h
    | [x], h =>
      simp only [okL, Bool.and_eq_true] at h
      obtain ⟨h1, h2⟩ := sE c sc top X k x h.1.2
      exact ⟨⟨pe_one h1, pw_and1 (h2 h.1.1)⟩, ⟨pe_one h1, pw_or1 (h2 h.1.1)⟩⟩
  | c :: c' :: cs => fun sc top X k es pos h => by
    match es, h with
    | [], h => simp [okL] at h
    | [_], h => simp [okL] at h
    | x :: y :: r, h =>
      have h' : (testable x && okE T N c sc top x && okL T N (c' :: cs) sc top (y :: r)) = true := h
      simp only [Bool.and_eq_true] at h'
      obtain ⟨h1, h2⟩ := sE c sc top X k x h'.1.2
      obtain ⟨⟨a1, a2⟩, ⟨o1, o2⟩⟩ := sL (c' :: cs) sc top X k (y :: r) pos h'.2
      exact ⟨⟨pe_imp (pe_and h1 a1) (and_rd (ga := evE G C c) (gb := evAnd G C (c' :: cs))), pw_imp (pw_and (h2 h'.1.1) a2) (andT_rd (ga := evE G C c) (gb := evAnd G C (c' :: cs)))⟩,
        ⟨pe_imp (pe_or h1 o1) (or_rd (ga := evE G C c) (gb := evOr G C (c' :: cs))), pw_imp (pw_or (h2 h'.1.1) o2) (orT_rd (ga := evE G C c) (gb := evOr G C (c' :: cs)))⟩⟩
theorem sKs : ∀ cs : List Ex, SKs T G C N cs
  | [] => fun sc top X k es h => by
    cases es with
    | nil => exact pk_imp pk_nil ksNil_rd
    | cons _ _ => simp [okKs] at h
  | c :: cs => fun sc top X k es h => by
    cases es with
    | nil => simp [okKs] at h
    | cons q r =>
      obtain ⟨n, x, p⟩ := q
      simp only [okKs, Bool.and_eq_true] at h
      exact pk_imp (pk_cons (sE c sc top X k x h.1.2).1 (sKs cs sc top X k r h.2)) ksCons_rd
theorem sTs : ∀ cs : List Ex, STs T G C N cs
  | [] => fun sc X k es h => by
    cases es with
    | nil => exact pts_imp pts_nil tsNil_rd
    | cons _ _ => simp [okTs] at h
  | c :: cs => fun sc X k es h => by
    match es, h with
    | [], h => simp [okTs] at h
    | _ :: _ :: _, h => simp [okTs] at h
    | [x], h =>
      simp only [okTs, Bool.and_eq_true] at h
      exact pts_imp (pts_one ((sE c sc false X k x h.2).2 h.1.2)) fun σ H Q q => q
theorem sO : ∀ c : Option Ex, SO T G C N c
  | none => fun sc top X k e h => by
    cases e with
    | none => exact po_imp po_none noPart_rd
    | some _ => simp [okO] at h
  | some c => fun sc top X k e h => by
    cases e with
    | none => simp [okO] at h
    | some e => exact po_imp (po_some (sE c sc top X k e h).1) part_rd
theorem sI : ∀ c : It, SI T G C N c
  | .ex c => fun sc top X k tg e h => pi_ex (sE c sc top X k e h).1
  | .range args => fun sc top X k tg e h => by
    unfold okI at h
    split at h
    · rename_i x _ xs _
      simp only [Bool.and_eq_true] at h
      obtain ⟨⟨⟨⟨h1, hg⟩, hs⟩, hl⟩, ha⟩ := h
      have e1 : x = ("range" : Str) := by simpa using h1
      subst e1
      have pa := sAs args sc top X k xs ha
      have hm : X.mg "range" = none := k.bl "range" (by decide)
      have lx := okAs_len args xs ha
      match xs, args, lx, ha, hs, pa, hl with
      | [], [], _, _, _, _, hl => simp at hl
      | [a], [(k1, c1)], _, ha, hs, pa, _ =>
        obtain ⟨g1, _, _⟩ := okAs_plain (noStar_cons hs).1 ha
        exact pi_rng1 (k.gl hg) hm pa (starEach_plain g1) fun ρ p q => evAs_len (ρ := ρ) _ hs q
      | [a, b], [(k1, c1), (k2, c2)], _, ha, hs, pa, _ =>
        obtain ⟨hs1, hs2⟩ := noStar_cons hs
        obtain ⟨g1, _, g2⟩ := okAs_plain hs1 ha
        obtain ⟨g3, _, _⟩ := okAs_plain (noStar_cons hs2).1 g2
        exact pi_rng2 (k.gl hg) hm pa (by rw [starEach_plain g1, starEach_plain g3]; rfl) (starEach_plain g3) fun ρ p q => evAs_len (ρ := ρ) _ hs q
      | _ :: _ :: _ :: _, _ :: _ :: _ :: _, _, _, _, _, hl => simp at hl
    · cases h
  | .enum c => fun sc top X k tg e h => by
    unfold okI at h
    split at h
    · rename_i x _ y _
      simp only [Bool.and_eq_true, Bool.not_eq_true'] at h
      obtain ⟨⟨⟨⟨h1, hg⟩, ht⟩, hs⟩, ha⟩ := h
      have e1 : x = ("enumerate" : Str) := by simpa using h1
      subst e1
      cases tg with
      | Tuple ts kk tp => exact pi_en (k.gl hg) (k.bl "enumerate" (by decide)) (sE c sc top X k y ha).1 (starEach_plain hs)
      | _ => simp [isTuple] at ht
    · cases h
  | .zip c c' => fun sc top X k tg e h => by
    unfold okI at h
    split at h
    · rename_i x _ y z _
      simp only [Bool.and_eq_true, Bool.not_eq_true'] at h
      obtain ⟨⟨⟨⟨⟨⟨h1, hg⟩, ht⟩, hs⟩, hs'⟩, ha⟩, ha'⟩ := h
      have e1 : x = ("zip" : Str) := by simpa using h1
      subst e1
      cases tg with
      | Tuple ts kk tp => exact pi_zp (k.gl hg) (k.bl "zip" (by decide)) (sE c sc top X k y ha).1 (sE c' sc top X k z ha').1 (starEach_plain hs) (starEach_plain hs')
      | _ => simp [isTuple] at ht
    · cases h
end
end
end EV
set_option linter.all false
namespace EV
open PySem
section
variable (G : List PV) (C : Cl)
/-- names stored at one time: all values come first -/
def evPar : List Nat → List Ex → Env → Option Env
  | [], es, ρ => match es with
    | [] => some ρ
    | _ => none
  | i :: is, es, ρ => match es with
    | [] => none
    | e :: r => (evE G C e ρ).bind fun p => (evPar is r p.2).bind fun ρ' => put i p.1 ρ'
/-! ### exceptions: number of the class, values of the fields -/
abbrev Exn : Type := Nat × List PV
def XOFF : Nat := 1000
def XROOM : Nat := 999999
def decX (r : RV) : Option Exn := match r with
  | .fz (.tup (.int j :: vs)) => some (j.toNat, vs)
  | _ => none
def encX (x : Exn) : RV := .fz (.tup (.int (x.1 : Int) :: x.2))
theorem decX_encX (x : Exn) : decX (encX x) = some x := by
  obtain ⟨j, vs⟩ := x
  show some ((j : Int).toNat, vs) = _
  rw [Int.toNat_natCast]
def xcall (f : Nat) (us : List PV) : Option Exn := (C (f + XOFF) (us.map fun v => (false, v))).bind fun r => decX r.1
/-- a call that raises -/
def exC (c : Ex) (ρ : Env) : Option (Exn × Env) := match c with
  | .call f (a :: as) => (evAs G C (a :: as) ρ).bind fun p => (vals? p.1).bind fun us => (xcall C f us).map fun x => (x, p.2)
  | .callK f [] kws order => (evKs G C kws ρ).bind fun q => (pick q.1 order).bind fun vs => (xcall C f vs).map fun x => (x, q.2)
  | _ => none
def ex1 (c : Ex) (ρ : Env) : Option (Exn × Env) := match c with
  | .ite t a b => (tst (evE G C t ρ)).bind fun p => if p.1 then exC G C a p.2 else exC G C b p.2
  | e => exC G C e ρ
def exAs : List (AK × Ex) → Env → Option (Exn × Env)
  | [], _ => none
  | (k, c) :: cs, ρ => match k with
    | .val => (match ex1 G C c ρ with
      | some x => some x
      | none => (evE G C c ρ).bind fun p => exAs cs p.2)
    | _ => none
def exE (c : Ex) (ρ : Env) : Option (Exn × Env) := match c with
  | .tup es => exAs G C es ρ
  | .lst es => exAs G C es ρ
  | e => ex1 G C e ρ
mutual
def hxv : HEx → List PV → Option PV
  | .lit v, _ => some v
  | .fld n, vs => vs[n]?
  | .tup es, vs => (hxvs es vs).bind fun us => if us.length ≤ LIM then some (.tup us) else none
  | .sure _ a _, vs => hxv a vs
def hxvs : List HEx → List PV → Option (List PV)
  | [], _ => some []
  | e :: es, vs => (hxv e vs).bind fun u => (hxvs es vs).map (u :: ·)
end
mutual
def evS : Sm → Env → Option (Fl × Env)
  | .asg p e, ρ => match p with
    | .name i => (evE G C e ρ).bind fun q => (put i q.1 q.2).map fun ρ' => (.nx, ρ')
    | .tup ps => (evE G C e ρ).bind fun q => (bindP (.tup ps) q.1.val q.2).map fun ρ' => (.nx, ρ')
  | .par is es, ρ => (evPar G C is es ρ).map fun ρ' => (.nx, ρ')
  | .setIdx i e v, ρ => (evE G C v ρ).bind fun p => (peek i p.2).bind fun _ => (evE G C e p.2).bind fun q => q.1.val.int?.bind fun k =>
      (modify i (fun l => match l with
        | .lst xs => (ixN xs.length k).map fun j => .lst (xs.set j p.1.val)
        | _ => none) q.2).map fun ρ' => (.nx, ρ')
  | .app i e, ρ => (peek i ρ).bind fun l => l.lst?.bind fun _ => (evE G C e ρ).bind fun p => (modify i (fun l => match l with
        | .lst xs => if xs.length < LIM then some (.lst (xs ++ [p.1.val])) else none
        | _ => none) p.2).map fun ρ' => (.nx, ρ')
  | .star i ps e, ρ => (evE G C e ρ).bind fun q => q.1.val.tup?.bind fun xs => if ps.length ≤ xs.length then (put i (.fr (.lst (xs.take (xs.length - ps.length)))) q.2).bind fun ρ1 => (bindPs ps (xs.drop (xs.length - ps.length)) ρ1).map fun ρ' => (.nx, ρ') else none
  | .expr e, ρ => (evE G C e ρ).map fun p => (.nx, p.2)
  | .ret e, ρ => (evE G C e ρ).map fun p => (.rt p.1, p.2)
  | .retN, ρ => some (.rt (.fz .non), ρ)
  | .ite c a b, ρ => (tst (evE G C c ρ)).bind fun p => if p.1 then evSs a p.2 else evSs b p.2
  | .for_ p it body, ρ => (evI G C it ρ).bind fun q => forLoop (fun x ρ1 => (bindP p x ρ1).bind fun ρ2 => evSs body ρ2) q.1 q.2
  | .while_ c body, ρ => whileLoop (fun ρ1 => tst (evE G C c ρ1)) (fun ρ1 => evSs body ρ1) FUEL ρ
  | .brk, ρ => some (.br, ρ)
  | .cont, ρ => some (.ct, ρ)
  | .pass, ρ => some (.nx, ρ)
  | .never, _ => none
  | .rais _ _, _ => none
  | .tryE body j i k h, ρ => match evSs body ρ with
    | some r => some r
    | none => (exSs body ρ).bind fun q => if q.1.1 = j ∧ i < q.2.length then (hxv h q.1.2).bind fun v => (put k (.fz v) (q.2.set i .un)).map fun ρ' => (.nx, ρ'.set i .un) else none
def evSs : List Sm → Env → Option (Fl × Env)
  | [], ρ => some (.nx, ρ)
  | s :: ss, ρ => (evS s ρ).bind fun p => match p.1 with
    | .nx => evSs ss p.2
    | f => some (f, p.2)
def exS : Sm → Env → Option (Exn × Env)
  | .asg _ e, ρ => exE G C e ρ
  | .expr e, ρ => exE G C e ρ
  | .ret e, ρ => exE G C e ρ
  | .ite c a b, ρ => (tst (evE G C c ρ)).bind fun p => if p.1 then exSs a p.2 else exSs b p.2
  | .rais j es, ρ => (C XROOM []).bind fun _ => (evAs G C es ρ).bind fun p => (vals? p.1).map fun vs => ((j, vs), p.2)
  | _, _ => none
def exSs : List Sm → Env → Option (Exn × Env)
  | [], _ => none
  | s :: ss, ρ => match exS s ρ with
    | some x => some x
    | none => (evS s ρ).bind fun p => match p.1 with
      | .nx => exSs ss p.2
      | _ => none
end
end
/-- a def: how many slots, what it does -/
structure FD where
  m : Nat
  body : List Sm
  ex : Bool := false
def slotOf (p : Bool × PV) : Slot := if p.1 then .pn p.2 else .fz p.2
def startE (m : Nat) (args : List (Bool × PV)) : Env := args.map slotOf ++ List.replicate (m - args.length) .un
/-- what is left of the lists that were handed in -/
def finE : List (Bool × PV) → Env → Option (List PV)
  | [], _ => some []
  | p :: ps, ρ => match ρ with
    | [] => none
    | s :: ρ' => if p.1 then (match s with
        | .pn u => (finE ps ρ').map (u :: ·)
        | _ => none) else finE ps ρ'
def flRv : Fl → Option RV
  | .rt r => some r
  | .nx => some (.fz .non)
  | _ => none
def evFn (G : List PV) (C : Cl) (d : FD) (args : List (Bool × PV)) : Option (RV × List PV) :=
  if args.length ≤ d.m then (evSs G C d.body (startE d.m args)).bind fun p => (flRv p.1).bind fun r => (finE args p.2).map fun us => (r, us) else none
/-- .. how it raises -/
def exFn (G : List PV) (C : Cl) (d : FD) (args : List (Bool × PV)) : Option (RV × List PV) :=
  if d.ex = true then if args.length ≤ d.m ∧ (args.all fun p => !p.1) = true then (exSs G C d.body (startE d.m args)).map fun q => (encX q.1, []) else none else none
/-- the defs by their numbers, calls nested at most k deep -/
def evCl (G : List PV) (F : List FD) : Nat → Cl
  | 0 => fun _ _ => none
  | k + 1 => fun f args => if f < XOFF then F[f]?.bind fun d => evFn G (evCl G F k) d args
    else if f = XROOM then (if 1 ≤ k then some (.fz .non, []) else none) else F[f - XOFF]?.bind fun d => exFn G (evCl G F k) d args
end EV
set_option linter.all false
namespace EV
open PySem
section
variable (G : List PV) (C : Cl) (ρ : Env)
theorem x_lit (v : PV) : evE G C (.lit v) ρ = some (.fz v, ρ) := rfl
theorem x_glo (n : Nat) : evE G C (.glo n) ρ = G[n]?.map fun v => (.fz v, ρ) := rfl
theorem x_var (i : Nat) : evE G C (.var i) ρ = use i ρ := rfl
theorem x_take (i : Nat) : evE G C (.take i) ρ = takeE i ρ := rfl
theorem x_rep (a n : Ex) : evE G C (.rep a n) ρ = (evE G C a ρ).bind fun p => match p.1 with
    | .fr (.lst xs) => (evE G C n p.2).bind fun q => q.1.val.int?.bind fun k => if 0 ≤ k ∧ k ≤ 1000000 ∧ xs.length * k.toNat ≤ LIM then some (.fr (.lst (List.replicate k.toNat xs).flatten), q.2) else none
    | _ => none := rfl
theorem x_tup (es : List (AK × Ex)) : evE G C (.tup es) ρ = (evAs G C es ρ).bind fun p => (vals? p.1).bind fun vs => if vs.length ≤ LIM then some (.fz (.tup vs), p.2) else none := rfl
theorem x_lst (es : List (AK × Ex)) : evE G C (.lst es) ρ = (evAs G C es ρ).bind fun p => (vals? p.1).bind fun vs => if vs.length ≤ LIM then some (.fr (.lst vs), p.2) else none := rfl
theorem x_bin (op : BOp) (a b : Ex) : evE G C (.bin op a b) ρ = (bw a (evE G C a ρ) ρ).bind fun p => (bw b (evE G C b p.2) p.2).bind fun q => (deref p.1 q.2).bind fun x => (deref q.1 q.2).bind fun y => (binOp op x y).map fun r => (r, q.2) := rfl
theorem x_neg (a : Ex) : evE G C (.neg a) ρ = (evE G C a ρ).bind fun p => (p.1.val.int?).map fun i => (.fz (.int (-i)), p.2) := rfl
theorem x_cmp (op : COp) (a b : Ex) : evE G C (.cmp op a b) ρ = (bw a (evE G C a ρ) ρ).bind fun p => (bw b (evE G C b p.2) p.2).bind fun q => (deref p.1 q.2).bind fun x => (deref q.1 q.2).bind fun y => (cmpOp op x y).map fun r => (.fz (.bl r), q.2) := rfl
theorem x_chain (op op' : COp) (a b c : Ex) : evE G C (.chain op op' a b c) ρ = (evE G C a ρ).bind fun p => (evE G C b p.2).bind fun q => (cmpOp op p.1.val q.1.val).bind fun k =>
      if k then (evE G C c q.2).bind fun r => (cmpOp op' q.1.val r.1.val).map fun k' => (.fz (.bl k'), r.2) else some (.fz (.bl false), q.2) := rfl
theorem x_ands (es : List Ex) : evE G C (.ands es) ρ = evAnd G C es ρ := rfl
theorem x_ors (es : List Ex) : evE G C (.ors es) ρ = evOr G C es ρ := rfl
theorem x_and1 (a : Ex) : evAnd G C [a] ρ = evE G C a ρ := rfl
theorem x_or1 (a : Ex) : evOr G C [a] ρ = evE G C a ρ := rfl
/-- a bool that goes on, or not -/
def andK (r : Option (RV × Env)) (f : Env → Option (RV × Env)) : Option (RV × Env) := r.bind fun p => match p.1 with
  | .fz (.bl k) => if k then f p.2 else some (.fz (.bl false), p.2)
  | _ => none
def orK (r : Option (RV × Env)) (f : Env → Option (RV × Env)) : Option (RV × Env) := r.bind fun p => match p.1 with
  | .fz (.bl k) => if k then some (.fz (.bl true), p.2) else f p.2
  | _ => none
theorem andK_bl (k : Bool) (f : Env → Option (RV × Env)) : andK (some (.fz (.bl k), ρ)) f = if k = true then f ρ else some (.fz (.bl false), ρ) := rfl
theorem orK_bl (k : Bool) (f : Env → Option (RV × Env)) : orK (some (.fz (.bl k), ρ)) f = if k = true then some (.fz (.bl true), ρ) else f ρ := rfl
theorem x_and2 (a b : Ex) (es : List Ex) : evAnd G C (a :: b :: es) ρ = andK (evE G C a ρ) fun ρ' => evAnd G C (b :: es) ρ' := rfl
theorem x_or2 (a b : Ex) (es : List Ex) : evOr G C (a :: b :: es) ρ = orK (evE G C a ρ) fun ρ' => evOr G C (b :: es) ρ' := rfl
theorem x_not (a : Ex) : evE G C (.not a) ρ = (tst (evE G C a ρ)).map fun p => (.fz (.bl !p.1), p.2) := rfl
theorem x_ite (c a b : Ex) : evE G C (.ite c a b) ρ = (tst (evE G C c ρ)).bind fun p => if p.1 = true then evE G C a p.2 else evE G C b p.2 := rfl
theorem x_idx (a i : Ex) : evE G C (.idx a i) ρ = (bw a (evE G C a ρ) ρ).bind fun p => (evE G C i p.2).bind fun q => (deref p.1 q.2).bind fun x => x.seq?.bind fun xs => q.1.val.int?.bind fun i =>
      (ixN xs.length i).bind fun j => xs[j]?.map fun v => (.fz v, q.2) := rfl
def sliceOf (lo hi : Option Int) : PV → Env → Option (RV × Env)
  | .tup xs, ρ => some (.fz (.tup (cut xs lo hi)), ρ)
  | .lst xs, ρ => some (.fr (.lst (cut xs lo hi)), ρ)
  | _, _ => none
theorem x_slc (a : Ex) (lo hi : Option Ex) : evE G C (.slc a lo hi) ρ = (bw a (evE G C a ρ) ρ).bind fun p => (evO G C lo p.2).bind fun l => (evO G C hi l.2).bind fun h => (deref p.1 h.2).bind fun x => sliceOf l.1 h.1 x h.2 := by
  show (bw a (evE G C a ρ) ρ).bind _ = _
  congr 1
  funext p
  congr 1
  funext l
  congr 1
  funext h
  congr 1
  funext x
  cases x <;> rfl
theorem x_call (f : Nat) (args : List (AK × Ex)) : evE G C (.call f args) ρ = (evAs G C args ρ).bind fun p => if (slots p.1).length ≤ 1 then (avGet p.2 p.1).bind fun vs => (C f vs).bind fun r => (avPut p.1 r.2 p.2).map fun ρ' => (r.1, ρ') else none := rfl
theorem x_callK (f : Nat) (args : List (AK × Ex)) (kws : List Ex) (order : List Nat) : evE G C (.callK f args kws order) ρ = (evAs G C args ρ).bind fun p => (evKs G C kws p.2).bind fun q => (vals? p.1).bind fun us =>
      (pick (us ++ q.1) order).bind fun vs => (C f (vs.map fun v => (false, v))).map fun r => (r.1, q.2) := rfl
theorem x_bi (b : Bi) (args : List (AK × Ex)) : evE G C (.bi b args) ρ = (evAs G C args ρ).bind fun p => (derefs p.1 p.2).bind fun vs => (bias b vs).map fun r => (r, p.2) := rfl
theorem x_isi (a : Ex) (tys : List Ty) : evE G C (.isi a tys) ρ = (bw a (evE G C a ρ) ρ).bind fun p => (deref p.1 p.2).map fun x => (.fz (.bl (tys.any (tyOf x))), p.2) := rfl
theorem x_rng1 (t : Bool) (a : Ex) : evE G C (.rng1 t a) ρ = (evE G C a ρ).bind fun p => (rangeItems [p.1.val]).bind fun xs => (mkSeq t xs).map fun r => (r, p.2) := rfl
theorem x_rng2 (t : Bool) (a b : Ex) : evE G C (.rng2 t a b) ρ = (evE G C a ρ).bind fun p => (evE G C b p.2).bind fun q => (rangeItems [p.1.val, q.1.val]).bind fun xs => (mkSeq t xs).map fun r => (r, q.2) := rfl
theorem a_nil : evAs G C [] ρ = some ([], ρ) := rfl
theorem a_val (e : Ex) (es : List (AK × Ex)) : evAs G C ((.val, e) :: es) ρ = (evE G C e ρ).bind fun p => (evAs G C es p.2).map fun q => (.val p.1.val :: q.1, q.2) := rfl
theorem a_ref (e : Ex) (es : List (AK × Ex)) : evAs G C ((.ref, e) :: es) ρ = (bw e (evE G C e ρ) ρ).bind fun p => (evAs G C es p.2).map fun q => (p.1 :: q.1, q.2) := rfl
theorem a_star (e : Ex) (es : List (AK × Ex)) : evAs G C ((.star, e) :: es) ρ = (evE G C e ρ).bind fun p => p.1.val.seq?.bind fun xs => (evAs G C es p.2).map fun q => (xs.map .val ++ q.1, q.2) := rfl
theorem x_tab (n : Nat) (kvs : List (Str × Str)) (e : Ex) : evE G C (.tab n kvs e) ρ = (evE G C e ρ).bind fun p => p.1.val.str?.bind fun z => (kvs.lookup z).map fun w => (.fz (.str w), p.2) := rfl
theorem x_callB (f : Nat) (args : List (List (AK × Ex))) : evE G C (.callB f args) ρ = (evBs G C args ρ).bind fun p => (derefL p.1 p.2).bind fun vs => (C f (vs.map fun v => (false, v))).bind fun r => if r.1.val.leaf = true then some (.fz r.1.val, p.2) else none := rfl
theorem bs_nil : evBs G C [] ρ = some ([], ρ) := rfl
theorem bs_cons (es : List (AK × Ex)) (r : List (List (AK × Ex))) : evBs G C (es :: r) ρ = (evAs G C es ρ).bind fun p => if p.1.length ≤ LIM then (evBs G C r p.2).map fun q => (p.1 :: q.1, q.2) else none := rfl
theorem vals_app : ∀ (xs : List PV) (bs : List Bw), vals? (xs.map .val ++ bs) = (vals? bs).map (xs ++ ·)
  | [], bs => by simp
  | x :: xs, bs => by
    show (vals? (xs.map .val ++ bs)).map (x :: ·) = _
    rw [vals_app xs bs]
    cases vals? bs <;> rfl
theorem vals_map (xs : List PV) : vals? (xs.map .val) = some xs := by
  have := vals_app xs []
  rw [List.append_nil] at this
  rw [this]
  simp [vals?]
theorem k_nil : evKs G C [] ρ = some ([], ρ) := rfl
theorem k_cons (e : Ex) (es : List Ex) : evKs G C (e :: es) ρ = (evE G C e ρ).bind fun p => (evKs G C es p.2).map fun q => (p.1.val :: q.1, q.2) := rfl
theorem o_none : evO G C none ρ = some (none, ρ) := rfl
theorem o_some (e : Ex) : evO G C (some e) ρ = (evE G C e ρ).bind fun p => p.1.val.int?.map fun i => (some i, p.2) := rfl
theorem val_fz (v : PV) : (RV.fz v).val = v := rfl
theorem val_fr (v : PV) : (RV.fr v).val = v := rfl
theorem d_slot (i : Nat) : deref (.slot i) ρ = peek i ρ := rfl
theorem d_val (v : PV) : deref (.val v) ρ = some v := rfl
theorem ds_nil : derefs [] ρ = some [] := rfl
theorem ds_cons (b : Bw) (bs : List Bw) : derefs (b :: bs) ρ = (deref b ρ).bind fun v => (derefs bs ρ).map fun vs => v :: vs := rfl
theorem t_some (r : RV) : tst (some (r, ρ)) = if isStr r.val = true then none else some (truthy r.val, ρ) := by
  show (if isStr r.val then none else some (truthy r.val, ρ)) = _
  rfl
/-! statements -/
theorem q_nil : evSs G C [] ρ = some (.nx, ρ) := rfl
/-- behind a statement -/
def thenS (r : Option (Fl × Env)) (f : Env → Option (Fl × Env)) : Option (Fl × Env) := r.bind fun p => match p.1 with
  | .nx => f p.2
  | fl => some (fl, p.2)
theorem q_cons (s : Sm) (ss : List Sm) : evSs G C (s :: ss) ρ = thenS (evS G C s ρ) fun ρ' => evSs G C ss ρ' := rfl
theorem th_nx (f : Env → Option (Fl × Env)) : thenS (some (.nx, ρ)) f = f ρ := rfl
theorem th_rt (r : RV) (f : Env → Option (Fl × Env)) : thenS (some (.rt r, ρ)) f = some (.rt r, ρ) := rfl
theorem th_br (f : Env → Option (Fl × Env)) : thenS (some (.br, ρ)) f = some (.br, ρ) := rfl
theorem th_ct (f : Env → Option (Fl × Env)) : thenS (some (.ct, ρ)) f = some (.ct, ρ) := rfl
theorem th_if (c : Prop) [Decidable c] (a b : Option (Fl × Env)) (f : Env → Option (Fl × Env)) : thenS (if c then a else b) f = if c then thenS a f else thenS b f := by split <;> rfl
theorem s_asgN (i : Nat) (e : Ex) : evS G C (.asg (.name i) e) ρ = (evE G C e ρ).bind fun q => (put i q.1 q.2).map fun ρ' => (.nx, ρ') := rfl
theorem s_asgT (ps : List Pt) (e : Ex) : evS G C (.asg (.tup ps) e) ρ = (evE G C e ρ).bind fun q => (bindP (.tup ps) q.1.val q.2).map fun ρ' => (.nx, ρ') := rfl
theorem s_par (is : List Nat) (es : List Ex) : evS G C (.par is es) ρ = (evPar G C is es ρ).map fun ρ' => (.nx, ρ') := rfl
theorem p_nil : evPar G C [] [] ρ = some ρ := rfl
theorem p_cons (i : Nat) (is : List Nat) (e : Ex) (es : List Ex) : evPar G C (i :: is) (e :: es) ρ = (evE G C e ρ).bind fun p => (evPar G C is es p.2).bind fun ρ' => put i p.1 ρ' := rfl
theorem s_star (i : Nat) (ps : List Pt) (e : Ex) : evS G C (.star i ps e) ρ = (evE G C e ρ).bind fun q => q.1.val.tup?.bind fun xs => if ps.length ≤ xs.length then (put i (.fr (.lst (xs.take (xs.length - ps.length)))) q.2).bind fun ρ1 => (bindPs ps (xs.drop (xs.length - ps.length)) ρ1).map fun ρ' => (.nx, ρ') else none := rfl
theorem s_expr (e : Ex) : evS G C (.expr e) ρ = (evE G C e ρ).map fun p => (.nx, p.2) := rfl
theorem s_ret (e : Ex) : evS G C (.ret e) ρ = (evE G C e ρ).map fun p => (.rt p.1, p.2) := rfl
theorem s_retN : evS G C .retN ρ = some (.rt (.fz .non), ρ) := rfl
theorem s_ite (c : Ex) (a b : List Sm) : evS G C (.ite c a b) ρ = (tst (evE G C c ρ)).bind fun p => if p.1 = true then evSs G C a p.2 else evSs G C b p.2 := rfl
def setAt (k : Int) (v : PV) : PV → Option PV
  | .lst xs => (ixN xs.length k).map fun j => .lst (xs.set j v)
  | _ => none
theorem s_setIdx (i : Nat) (e v : Ex) : evS G C (.setIdx i e v) ρ = (evE G C v ρ).bind fun p => (peek i p.2).bind fun _ => (evE G C e p.2).bind fun q => q.1.val.int?.bind fun k => (modify i (setAt k p.1.val) q.2).map fun ρ' => (.nx, ρ') := rfl
def appTo (v : PV) : PV → Option PV
  | .lst xs => if xs.length < LIM then some (.lst (xs ++ [v])) else none
  | _ => none
theorem s_app (i : Nat) (e : Ex) : evS G C (.app i e) ρ = (peek i ρ).bind fun l => l.lst?.bind fun _ => (evE G C e ρ).bind fun p => (modify i (appTo p.1.val) p.2).map fun ρ' => (.nx, ρ') := rfl
/-- a turn of a for loop -/
def fT (G : List PV) (C : Cl) (p : Pt) (body : List Sm) : PV → Env → Option (Fl × Env) := fun x ρ1 => (bindP p x ρ1).bind fun ρ2 => evSs G C body ρ2
theorem s_for (p : Pt) (it : It) (body : List Sm) : evS G C (.for_ p it body) ρ = (evI G C it ρ).bind fun q => forLoop (fT G C p body) q.1 q.2 := rfl
theorem s_while (c : Ex) (body : List Sm) : evS G C (.while_ c body) ρ = whileLoop (fun ρ1 => tst (evE G C c ρ1)) (fun ρ1 => evSs G C body ρ1) FUEL ρ := rfl
theorem i_ex (e : Ex) : evI G C (.ex e) ρ = (evE G C e ρ).bind fun p => p.1.val.seq?.map fun xs => (xs, p.2) := rfl
theorem i_range (args : List (AK × Ex)) : evI G C (.range args) ρ = (evAs G C args ρ).bind fun p => (vals? p.1).bind fun vs => (rangeItems vs).map fun xs => (xs, p.2) := rfl
theorem i_zip (a b : Ex) : evI G C (.zip a b) ρ = (evE G C a ρ).bind fun p => (evE G C b p.2).bind fun q => p.1.val.seq?.bind fun xs => q.1.val.seq?.map fun ys => (List.zipWith (fun x y => .tup [x, y]) xs ys, q.2) := rfl
theorem i_enum (a : Ex) : evI G C (.enum a) ρ = (evE G C a ρ).bind fun p => p.1.val.seq?.map fun xs => (enumItems 0 xs, p.2) := rfl
theorem fn_eq (d : FD) (args : List (Bool × PV)) : evFn G C d args = if args.length ≤ d.m then (evSs G C d.body (startE d.m args)).bind fun p => (flRv p.1).bind fun r => (finE args p.2).map fun us => (r, us) else none := rfl
end
/-! comparisons of plain values -/
theorem eo_ii (i j : Int) : eqOk (.int i) (.int j) = true := rfl
theorem eo_ss (a b : Str) : eqOk (.str a) (.str b) = true := rfl
theorem eo_bb (a b : Bool) : eqOk (.bl a) (.bl b) = true := rfl
theorem eo_sn (a : Str) : eqOk (.str a) .non = true := rfl
theorem eo_in (a : Int) : eqOk (.int a) .non = true := rfl
theorem eo_ni (a : Int) : eqOk .non (.int a) = true := rfl
theorem eo_ns (a : Str) : eqOk .non (.str a) = true := rfl
theorem eo_nn : eqOk .non .non = true := rfl
theorem pq_ii (i j : Int) : peq (.int i) (.int j) = (i == j) := rfl
theorem pq_ss (a b : Str) : peq (.str a) (.str b) = (a == b) := rfl
theorem pq_bb (a b : Bool) : peq (.bl a) (.bl b) = (a == b) := rfl
theorem pq_in (a : Int) : peq (.int a) .non = false := rfl
theorem pq_ni (a : Int) : peq .non (.int a) = false := rfl
theorem pq_sn (a : Str) : peq (.str a) .non = false := rfl
theorem pq_ns (a : Str) : peq .non (.str a) = false := rfl
theorem pq_nn : peq .non .non = true := rfl
/-! arithmetic -/
theorem b_add (i j : Int) : binOp .add (.int i) (.int j) = some (.fz (.int (i + j))) := rfl
theorem b_sub (i j : Int) : binOp .sub (.int i) (.int j) = some (.fz (.int (i - j))) := rfl
theorem b_catT (xs ys : List PV) : binOp .add (.tup xs) (.tup ys) = if xs.length + ys.length ≤ LIM then some (.fz (.tup (xs ++ ys))) else none := rfl
theorem b_catL (xs ys : List PV) : binOp .add (.lst xs) (.lst ys) = if xs.length + ys.length ≤ LIM then some (.fr (.lst (xs ++ ys))) else none := rfl
theorem b_mulR (i j : Int) (h1 : -18446744073709551616 < j) (h2 : j < 18446744073709551616) : binOp .mul (.int i) (.int j) = some (.fz (.int (i * j))) := if_pos (.inr ⟨h1, h2⟩)
theorem b_mulL (i j : Int) (h1 : -18446744073709551616 < i) (h2 : i < 18446744073709551616) : binOp .mul (.int i) (.int j) = some (.fz (.int (i * j))) := if_pos (.inl ⟨h1, h2⟩)
theorem b_mod (i j : Int) (h : 0 < j) : binOp .mod (.int i) (.int j) = some (.fz (.int (i % j))) := if_pos h
theorem b_fdiv (i j : Int) (h : 0 < j) (h2 : j < 18446744073709551616) : binOp .fdiv (.int i) (.int j) = some (.fz (.int (i / j))) := if_pos ⟨h, h2⟩
theorem b_pow (i : Int) (n : Nat) (h : (n : Int) ≤ 1000) (h2 : i.natAbs < 2 ^ 1024) : binOp .pow (.int i) (.int (n : Int)) = some (.fz (.int (i ^ n))) := if_pos ⟨Int.natCast_nonneg n, h, h2⟩
/-! ### loops, in general -/
theorem comp_map {α : Type} {turn : PV → Env → Option (Option PV × Env)} {f enc : α → PV} {ρ : Env} : ∀ (xs : List α) (acc : List PV), (∀ x ∈ xs, turn (enc x) ρ = some (some (f x), ρ)) → acc.length + xs.length ≤ LIM → compLoop turn (xs.map enc) ρ acc = some (acc ++ xs.map f, ρ)
  | [], acc, _, _ => by simp [compLoop]
  | x :: xs, acc, h, hl => by
    have h1 := h x List.mem_cons_self
    have hl2 : acc.length < LIM := by simp at hl; omega
    have ih := comp_map xs (acc ++ [f x]) (fun y hy => h y (List.mem_cons_of_mem _ hy)) (by simp at hl ⊢; omega)
    simp only [List.map_cons, compLoop, h1, Option.bind_some, if_pos hl2]
    rw [ih]
    simp
theorem comp_filter {α : Type} {turn : PV → Env → Option (Option PV × Env)} {f enc : α → PV} {p : α → Bool} {ρ : Env} : ∀ (xs : List α) (acc : List PV), (∀ x ∈ xs, turn (enc x) ρ = some (if p x then some (f x) else none, ρ)) → acc.length + xs.length ≤ LIM → compLoop turn (xs.map enc) ρ acc = some (acc ++ (xs.filter p).map f, ρ)
  | [], acc, _, _ => by simp [compLoop]
  | x :: xs, acc, h, hl => by
    have h1 := h x List.mem_cons_self
    have hl2 : acc.length < LIM := by simp at hl; omega
    cases hp : p x with
    | true =>
      have ih := comp_filter xs (acc ++ [f x]) (fun y hy => h y (List.mem_cons_of_mem _ hy)) (by simp at hl ⊢; omega)
      rw [hp] at h1
      simp only [List.map_cons, compLoop, h1, Option.bind_some, if_pos hl2, if_true]
      rw [ih, List.filter_cons_of_pos hp]
      simp
    | false =>
      have ih := comp_filter xs acc (fun y hy => h y (List.mem_cons_of_mem _ hy)) (by simp at hl ⊢; omega)
      rw [hp] at h1
      simp only [List.map_cons, compLoop, h1, Option.bind_some, Bool.false_eq_true, if_false]
      rw [ih, List.filter_cons_of_neg (by simp [hp])]
/-- a turn of a comprehension -/
def cT (G : List PV) (C : Cl) (elt : Ex) (own : List Nat) (pt : Pt) (tests : List Ex) : PV → Env → Option (Option PV × Env) := fun x ρ1 => (bindP pt x ρ1).bind fun ρ2 => (evTs G C tests ρ2).bind fun t =>
  if t.1 then (evE G C elt t.2).map fun y => (some y.1.val, wipe y.2 own) else some (none, wipe t.2 own)
theorem x_comp {G : List PV} {C : Cl} {elt : Ex} {own : List Nat} {pt : Pt} {it : It} {tests : List Ex} {ρ ρ1 ρ2 ρ3 : Env} {items ys : List PV} (hi : evI G C it ρ = some (items, ρ1)) (hf : ownFree ρ1 own = true) (hc : compLoop (cT G C elt own pt tests) items (wipe ρ1 own) [] = some (ys, ρ2)) (hb : back ρ1 ρ2 own = ρ3) :
    evE G C (.comp elt own pt it tests) ρ = some (.fr (.lst ys), ρ3) := by
  show (evI G C it ρ).bind _ = _
  rw [hi]
  show (if ownFree ρ1 own = true then (compLoop (cT G C elt own pt tests) items (wipe ρ1 own) []).map _ else none) = _
  rw [if_pos hf, hc, ← hb]
  rfl
/-! simp does not look behind what comes first -/
theorem cg_bind {α β : Type} {a b : Option α} {f : α → Option β} (h : a = b) : a.bind f = b.bind f := by rw [h]
theorem cg_map {α β : Type} {a b : Option α} {f : α → β} (h : a = b) : a.map f = b.map f := by rw [h]
theorem cg_then {a b : Option (Fl × Env)} {f : Env → Option (Fl × Env)} (h : a = b) : thenS a f = thenS b f := by rw [h]
theorem cg_and {a b : Option (RV × Env)} {f : Env → Option (RV × Env)} (h : a = b) : andK a f = andK b f := by rw [h]
theorem cg_or {a b : Option (RV × Env)} {f : Env → Option (RV × Env)} (h : a = b) : orK a f = orK b f := by rw [h]
end EV
set_option Elab.async false
set_option linter.all false
set_option maxRecDepth 100000
namespace EV
open PySem PySem.Spec PyProof.Rows L2
/-! ### the check of statements -/
def fnKind (sc : Scope) : Bool := (if sc.kind.isAnnotationScope then ScopeKind.function else sc.kind) == .function
def tupOf : Expr → Option (List Expr)
  | .Tuple es _ _ => some es
  | _ => none
/-- a pair's or a triple's values are stored without a tuple -/
def swB (sc : Scope) (ts vs : List Expr) : Bool :=
  let line := (ts.head?.map (·.pos.line)).getD 0
  let names := ts.filterMap fun
    | .Name id pos => if sc.names.lookup id == some .local && pos.line == line then some id else none
    | _ => none
  !(!(ts.length == 2 || ts.length == 3) || vs.length != ts.length || !fnKind sc) && !(vs.any fun | .Starred .. => true | _ => false) &&
  !(names.length != ts.length || names.eraseDups.length != names.length) && !(vs.all (foldedForSure 8)) && !(vs.all (constantsAlone 8))
def isCompAny : Expr → Bool
  | .ListComp _ _ _ _ => true
  | .SetComp _ _ _ _ => true
  | .DictComp _ _ _ _ _ => true
  | _ => false
/-- a tuple of values goes through a tuple object -/
def noSw (sc : Scope) (ts : List Expr) (v : Expr) : Bool := match v with
  | .Tuple vs _ _ => !(ts.length == 2 || ts.length == 3) || vs.length != ts.length || vs.all (foldedForSure 8) || (ts.filterMap fun
    | .Name id pos => if sc.names.lookup id == some .local && pos.line == (ts.head?.map (·.pos.line)).getD 0 then some id else none
    | _ => none).length != ts.length
  | _ => true
def valOf : Stmt → Expr
  | .Assign _ v _ => v
  | _ => .Constant .none 0 ⟨0, 0, 0, 0⟩
def swC (sc : Scope) (x : Str) (p : Pos) : Expr → Bool
  | .ListComp _ _ scope pos => fnKind sc && (sc.names.lookup x == some .local) && (p.line == pos.line) && !(scope.names.any fun (n, k) => n == x && (k == .local || k == .cell))
  | _ => false
def parNames (N : List Str) (sc : Scope) (line : Nat) : List Nat → List Expr → Bool
  | [], ts => ts.isEmpty
  | i :: is, ts => match ts with
    | .Name x p :: r => (N[i]? == some x) && ((sc.names.lookup x == some .local) && p.line == line) && parNames N sc line is r
    | _ => false
def locNames (N : List Str) (sc : Scope) : List Nat → List Expr → Bool
  | [], ts => ts.isEmpty
  | i :: is, ts => match ts with
    | .Name x _ :: r => (N[i]? == some x) && locB true sc x && locNames N sc is r
    | _ => false
def line0 (ts : List Expr) : Nat := (ts.head?.map (·.pos.line)).getD 0
mutual
def okH (sc : Scope) (n : Str) (fs : List Str) : HEx → Expr → Bool
  | .lit v, e => match e with
    | .Constant c _ _ => litB v c
    | _ => false
  | .fld m, e => match e with
    | .Attribute (.Name x _) f _ => (x == n) && (fs[m]? == some f)
    | _ => false
  | .tup es, e => match e with
    | .Tuple xs _ _ => okHs sc n fs es xs
    | _ => false
  | .sure _ _ _, _ => false
def okHs (sc : Scope) (n : Str) (fs : List Str) : List HEx → List Expr → Bool
  | [], xs => xs.isEmpty
  | e :: es, xs => match xs with
    | x :: r => !isStar x && okH sc n fs e x && okHs sc n fs es r
    | [] => false
end
section
variable (T : Tab) (N : List Str)
mutual
def okS : Sm → Scope → Stmt → Bool
  | .asg p e, sc, s => match p with
    | .name i => (match s with
      | .Assign [.Name x px] v _ => okP N sc true (.name i) (.Name x px) && okE T N e sc true v && (!isCompAny v || swC sc x px v)
      | _ => false)
    | .tup ps => (match s with
      | .Assign [.Tuple ts k p] v _ => okP N sc true (.tup ps) (.Tuple ts k p) && okE T N e sc true v && noSw sc ts v
      | _ => false)
  | .par is es, sc, s => match s with
    | .Assign [.Tuple ts _ _] (.Tuple vs _ _) _ => okL T N es sc true vs && (parNames N sc (line0 ts) is ts && swB sc ts vs || locNames N sc is ts && (is.length == es.length) && noSw sc ts (valOf s)) && !(vs.any isStar) && decide is.Nodup && (is.length == 2 || is.length == 3)
    | _ => false
  | .setIdx i e v, sc, s => match s with
    | .Assign [.Subscript (.Name x _) y _] w _ => (N[i]? == some x) && visB sc x && nameB x && !isSlice y && okE T N e sc true y && okE T N v sc true w
    | _ => false
  | .app i e, sc, s => match s with
    | .Expr (.Call (.Attribute (.Name x _) m ap) [y] [] cp) _ => (N[i]? == some x) && visB sc x && nameB x && (m == ("append" : Str)) && (ap.endLine == cp.line) && !isStar y && okE T N e sc true y
    | _ => false
  | .star i ps e, sc, s => match s with
    | .Assign [.Tuple (.Starred (.Name x px) p1 :: ts) k p] v _ => okP N sc true (.name i) (.Name x px) && okPs N sc true ps ts && okE T N e sc true v && noSw sc (.Starred (.Name x px) p1 :: ts) v
    | _ => false
  | .expr e, sc, s => match s with
    | .Expr v _ => !isCompAny v && okE T N e sc true v
    | _ => false
  | .ret e, sc, s => match s with
    | .Return (some v) _ => okE T N e sc true v
    | _ => false
  | .retN, _, s => match s with
    | .Return none _ => true
    | _ => false
  | .ite c a b, sc, s => match s with
    | .If t x y _ => testable t && okE T N c sc true t && okSs a sc x && okSs b sc y
    | _ => false
  | .for_ p it body, sc, s => match s with
    | .For tg iter x [] _ => okP N sc true p tg && !isSet iter && okI T N it sc true tg iter && okSs body sc x
    | _ => false
  | .while_ c body, sc, s => match s with
    | .While t x [] _ => testable t && okE T N c sc true t && okSs body sc x
    | _ => false
  | .brk, _, s => match s with
    | .Break _ => true
    | _ => false
  | .cont, _, s => match s with
    | .Continue _ => true
    | _ => false
  | .pass, _, s => match s with
    | .Pass _ => true
    | _ => false
  | .never, _, _ => true
  | .rais j es, sc, s => match s with
    | .Raise (some (.Call (.Name x _) xs [] _)) none _ => (match T.excs[j]? with
      | some I => (I.name == x) && (I.fs.length == es.length)
      | none => false) && gloB sc x && nameB x && noStar es && !xs.isEmpty && okAs T N es sc true xs
    | _ => false
  | .tryE body j i k h, sc, s => match s with
    | .Try bd [.ExceptHandler (some (.Name x _)) (some n) [.Assign [.Name y py] v _] _] [] [] _ => (match T.excs[j]? with
      | some I => (I.name == x) && okH sc n I.fs h v
      | none => false) && gloB sc x && nameB x && nameB n && visB sc n && (N[i]? == some n) && (sc.names.lookup n == some .local) && okP N sc true (.name k) (.Name y py) && !isCompAny v && okSs body sc bd
    | _ => false
def okSs : List Sm → Scope → List Stmt → Bool
  | [], _, ss => ss.isEmpty
  | c :: cs, sc, ss => match ss with
    | s :: r => okS c sc s && okSs cs sc r
    | [] => false
end
end
/-! ### readings -/
/-- behind a return -/
def PostS (K : PySem.W.Frag) (Z : AS) (pn : Nat → Option Addr) (σ : L2.St) (H : Hp) (ρ : Env) (r : RV) (σ' : L2.St) (ρ' : Env) (x : V) (H' : Hp) : Prop :=
  match r with
  | .fz v => SR K Z pn σ' H' ρ' ∧ Stp Z (Wof Z σ ρ) (Wof Z σ' ρ') H H' ∧ Rep K (Wof Z σ' ρ') H' v x
  | .fr v => ∃ a, x = .ref a ∧ SR K (plus Z a) pn σ' H' ρ' ∧ Stp Z (Wof Z σ ρ) (Wof (plus Z a) σ' ρ') H H' ∧ ¬ Wof Z σ' ρ' a ∧ Own K (Wof (plus Z a) σ' ρ') H' v a
def EndS (K : PySem.W.Frag) (Z : AS) (pn : Nat → Option Addr) (σ : L2.St) (H : Hp) (ρ : Env) (D : Ends) (fl : Fl) (ρ' : Env) : Prop :=
  match fl with
  | .nx => ∀ σ' H', SR K Z pn σ' H' ρ' → Stp Z (Wof Z σ ρ) (Wof Z σ' ρ') H H' → D.nx σ' H'
  | .br => ∀ σ' H', SR K Z pn σ' H' ρ' → Stp Z (Wof Z σ ρ) (Wof Z σ' ρ') H H' → D.bk σ' H'
  | .ct => ∀ σ' H', SR K Z pn σ' H' ρ' → Stp Z (Wof Z σ ρ) (Wof Z σ' ρ') H H' → D.ct σ' H'
  | .rt r => ∀ σ' x H', PostS K Z pn σ H ρ r σ' ρ' x H' → D.rt x H'
def tS (K : PySem.W.Frag) (g : Env → Option (Fl × Env)) : TS := fun D σ H => ∃ Z pn ρ fl ρ', SR K Z pn σ H ρ ∧ g ρ = some (fl, ρ') ∧ EndS K Z pn σ H ρ D fl ρ'
section
variable {K : PySem.W.Frag} {Z : AS} {pn : Nat → Option Addr} {σ σ1 σ' : L2.St} {H H1 H' : Hp} {ρ ρ1 ρ' : Env}
theorem PostS.pre {r : RV} {x : V} (st : Stp Z (Wof Z σ ρ) (Wof Z σ1 ρ1) H H1) (h : PostS K Z pn σ1 H1 ρ1 r σ' ρ' x H') : PostS K Z pn σ H ρ r σ' ρ' x H' := by
  cases r with
  | fz v => exact ⟨h.1, st.trans h.2.1, h.2.2⟩
  | fr v =>
    obtain ⟨a, e1, s, e2, n, o⟩ := h
    exact ⟨a, e1, s, st.trans e2, n, o⟩
theorem EndS.pre {D : Ends} {fl : Fl} (st : Stp Z (Wof Z σ ρ) (Wof Z σ1 ρ1) H H1) (h : EndS K Z pn σ H ρ D fl ρ') : EndS K Z pn σ1 H1 ρ1 D fl ρ' := by
  cases fl with
  | nx => exact fun σ' H' s e => h σ' H' s (st.trans e)
  | br => exact fun σ' H' s e => h σ' H' s (st.trans e)
  | ct => exact fun σ' H' s e => h σ' H' s (st.trans e)
  | rt r => exact fun σ' x H' p => h σ' x H' (p.pre st)
theorem seq_rd {g : Env → Option (Fl × Env)} {gs : Env → Option (Fl × Env)} (D : Ends) (σ : L2.St) (H : Hp) (h : tS K (fun ρ => (g ρ).bind fun p => match p.1 with
    | .nx => gs p.2
    | f => some (f, p.2)) D σ H) : tSeq (tS K g) (tS K gs) D σ H := by
  obtain ⟨Z, pn, ρ, fl, ρ', s, e, q⟩ := h
  obtain ⟨⟨f1, ρ1⟩, g1, e⟩ := Option.bind_eq_some_iff.mp e
  refine ⟨Z, pn, ρ, f1, ρ1, s, g1, ?_⟩
  cases f1 with
  | nx => exact fun σ1 H1 s1 st1 => ⟨Z, pn, ρ1, fl, ρ', s1, e, q.pre st1⟩
  | br => cases e; exact q
  | ct => cases e; exact q
  | rt r => cases e; exact q
theorem next_rd (D : Ends) (σ : L2.St) (H : Hp) (h : tS K (fun ρ => some (.nx, ρ)) D σ H) : tNext D σ H := by
  obtain ⟨Z, pn, ρ, fl, ρ', s, e, q⟩ := h
  cases e
  exact q σ H s Stp.refl
theorem brk_rd (D : Ends) (σ : L2.St) (H : Hp) (h : tS K (fun ρ => some (.br, ρ)) D σ H) : tBreak D σ H := by
  obtain ⟨Z, pn, ρ, fl, ρ', s, e, q⟩ := h
  cases e
  exact q σ H s Stp.refl
theorem cont_rd (D : Ends) (σ : L2.St) (H : Hp) (h : tS K (fun ρ => some (.ct, ρ)) D σ H) : tCont D σ H := by
  obtain ⟨Z, pn, ρ, fl, ρ', s, e, q⟩ := h
  cases e
  exact q σ H s Stp.refl
theorem PostE.s {r : RV} {x : V} (p : PostE K Z pn σ H ρ r ρ' x H') : PostS K Z pn σ H ρ r σ ρ' x H' := by
  cases r with
  | fz v => exact p
  | fr v => exact p
theorem ret_rd {g : Env → Option (RV × Env)} (D : Ends) (σ : L2.St) (H : Hp) (h : tS K (fun ρ => (g ρ).map fun p => (.rt p.1, p.2)) D σ H) : tRet (tR K g) D σ H := by
  obtain ⟨Z, pn, ρ, fl, ρ', s, e, q⟩ := h
  obtain ⟨⟨r, ρ1⟩, g1, e⟩ := Option.map_eq_some_iff.mp e
  cases e
  exact ⟨Z, pn, ρ, r, ρ1, s, g1, fun x H' p => q σ x H' p.s⟩
theorem retN_rd (D : Ends) (σ : L2.St) (H : Hp) (h : tS K (fun ρ => some (.rt (.fz .non), ρ)) D σ H) : tRetN D σ H := by
  obtain ⟨Z, pn, ρ, fl, ρ', s, e, q⟩ := h
  cases e
  exact q σ .non H ⟨s, Stp.refl, rfl⟩
theorem drop_rd {g : Env → Option (RV × Env)} (D : Ends) (σ : L2.St) (H : Hp) (h : tS K (fun ρ => (g ρ).map fun p => (.nx, p.2)) D σ H) : tDrop (tR K g) D σ H := by
  obtain ⟨Z, pn, ρ, fl, ρ', s, e, q⟩ := h
  obtain ⟨⟨r, ρ1⟩, g1, e⟩ := Option.map_eq_some_iff.mp e
  cases e
  exact ⟨Z, pn, ρ, r, ρ1, s, g1, fun x H' p => q σ H' p.freeze.1 p.freeze.2.1⟩
theorem if_rd {gc : Env → Option (RV × Env)} {ga gb : Env → Option (Fl × Env)} (D : Ends) (σ : L2.St) (H : Hp) (h : tS K (fun ρ => (tst (gc ρ)).bind fun p => if p.1 then ga p.2 else gb p.2) D σ H) : tIfS (tT K fun ρ => tst (gc ρ)) (tS K ga) (tS K gb) D σ H := by
  obtain ⟨Z, pn, ρ, fl, ρ', s, e, q⟩ := h
  obtain ⟨⟨b, ρ1⟩, g1, e⟩ := Option.bind_eq_some_iff.mp e
  refine ⟨Z, pn, ρ, b, ρ1, s, g1, fun H1 s1 st => ?_⟩
  cases b with
  | true =>
    simp only [if_true] at e ⊢
    exact ⟨Z, pn, ρ1, fl, ρ', s1, e, q.pre st⟩
  | false =>
    simp only [Bool.false_eq_true, if_false] at e ⊢
    exact ⟨Z, pn, ρ1, fl, ρ', s1, e, q.pre st⟩
theorem asgN_rd {g : Env → Option (RV × Env)} {i : Nat} (D : Ends) (σ : L2.St) (H : Hp) (h : tS K (fun ρ => (g ρ).bind fun q => (put i q.1 q.2).map fun ρ' => (.nx, ρ')) D σ H) : tAsg (tR K g) (gName i) D σ H := by
  obtain ⟨Z, pn, ρ, fl, ρ', s, e, q⟩ := h
  obtain ⟨⟨r, ρ1⟩, g1, e⟩ := Option.bind_eq_some_iff.mp e
  obtain ⟨ρ2, g2, e⟩ := Option.map_eq_some_iff.mp e
  cases e
  refine ⟨Z, pn, ρ, r, ρ1, s, g1, fun x H' p => ?_⟩
  obtain ⟨s2, st⟩ := p.put g2
  exact q _ _ s2 st
/-- a target's binding, seen from the outside -/
theorem bind_st (s1 : SR K Z pn σ' H ρ1) (w : ∀ b, Wof Z σ' ρ1 b → Wof Z σ ρ b) : Stp Z (Wof Z σ ρ) (Wof Z σ' ρ1) H H := Stp.less w
theorem asgP_rd {g : Env → Option (RV × Env)} {p : Pt} (D : Ends) (σ : L2.St) (H : Hp) (h : tS K (fun ρ => (g ρ).bind fun q => (bindP p q.1.val q.2).map fun ρ' => (.nx, ρ')) D σ H) : tAsg (tR K g) (tG K p) D σ H := by
  obtain ⟨Z, pn, ρ, fl, ρ', s, e, q⟩ := h
  obtain ⟨⟨r, ρ1⟩, g1, e⟩ := Option.bind_eq_some_iff.mp e
  obtain ⟨ρ2, g2, e⟩ := Option.map_eq_some_iff.mp e
  cases e
  refine ⟨Z, pn, ρ, r, ρ1, s, g1, fun x H' p => ?_⟩
  obtain ⟨s2, st, rp⟩ := p.freeze
  exact ⟨Z, pn, ρ1, r.val, _, s2, rp, g2, fun σ' s3 w _ => q _ _ s3 (st.trans (Stp.less w))⟩
/-! ### names stored at one time -/
theorem par_step {r : RV} {x : V} (p : PostE K Z pn σ H ρ r ρ1 x H1) : ∃ Z1 : AS, SR K Z1 pn σ H1 ρ1 ∧ ∀ (i : Nat) σ' H2 ρ2 ρ3, SR K Z1 pn σ' H2 ρ2 → Stp Z1 (Wof Z1 σ ρ1) (Wof Z1 σ' ρ2) H1 H2 → put i r ρ2 = some ρ3 →
    SR K Z pn (σ'.set i (some x)) H2 ρ3 ∧ Stp Z (Wof Z σ ρ) (Wof Z (σ'.set i (some x)) ρ3) H H2 := by
  cases r with
  | fz v =>
    obtain ⟨s1, st1, rp⟩ := p
    refine ⟨Z, s1, fun i σ' H2 ρ2 ρ3 s2 st2 hp => ?_⟩
    have p2 : PostE K Z pn σ' H2 ρ2 (.fz v) ρ2 x H2 := ⟨s2, Stp.refl, rp.ext st2.ext⟩
    obtain ⟨s3, st3⟩ := p2.put hp
    exact ⟨s3, (st1.trans st2).trans st3⟩
  | fr v =>
    obtain ⟨a, rfl, s1, st1, na, o⟩ := p
    refine ⟨plus Z a, s1, fun i σ' H2 ρ2 ρ3 s2 st2 hp => ?_⟩
    have nz : ¬ Z a := fun z => na (.inl z)
    have na2 : ¬ Wof Z σ' ρ2 a := fun z => by
      rcases z with z | ⟨j, w, h1, h2⟩
      · exact nz z
      · obtain ⟨b, e, n, _⟩ := s2.ow j w h1
        rw [h2] at e
        cases e
        exact n (.inr rfl)
    have o2 : Own K (Wof (plus Z a) σ' ρ2) H2 v a := o.ext st2.ext (st2.zk a (.inr rfl))
    have hl : i < ρ2.length ∧ ρ3 = ρ2.set i (.ow v) := by
      unfold put at hp
      split at hp
      · cases hp
      · rename_i e
        cases hp
        exact ⟨lt_of_get e, rfl⟩
      · cases hp
    obtain ⟨hl, rfl⟩ := hl
    obtain ⟨s3, w3⟩ := s2.setOw hl na2 o2
    have stZ : Stp Z (Wof (plus Z a) σ ρ1) (Wof (plus Z a) σ' ρ2) H1 H2 := ⟨st2.ext, fun b hb => st2.zk b (.inl hb)⟩
    exact ⟨s3, (st1.trans stZ).trans (Stp.less w3)⟩
theorem put_lt {i : Nat} {r : RV} {ρ ρ' : Env} (h : put i r ρ = some ρ') : i < ρ.length := by
  unfold put at h
  split at h
  · cases h
  · rename_i e
    exact lt_of_get e
  · cases h
theorem par2_rd {G : List PV} {C : Cl} {i j : Nat} {a b : Ex} (hij : i ≠ j) (D : Ends) (σ : L2.St) (H : Hp) (h : tS K (fun ρ => (evPar G C [i, j] [a, b] ρ).map fun ρ' => (.nx, ρ')) D σ H) : tPar i j (tCons (tR K (evE G C a)) (tCons (tR K (evE G C b)) tNil)) D σ H := by
  obtain ⟨Z, pn, ρ, fl, ρ', s, e, q⟩ := h
  obtain ⟨ρ4, e, e'⟩ := Option.map_eq_some_iff.mp e
  cases e'
  obtain ⟨⟨r1, ρ1⟩, g1, e⟩ := Option.bind_eq_some_iff.mp (show (evE G C a ρ).bind (fun p => (evPar G C [j] [b] p.2).bind fun ρ' => put i p.1 ρ') = some _ from e)
  obtain ⟨ρ3, e, p1⟩ := Option.bind_eq_some_iff.mp e
  obtain ⟨⟨r2, ρ2⟩, g2, e⟩ := Option.bind_eq_some_iff.mp (show (evE G C b ρ1).bind (fun p => (some p.2).bind fun ρ' => put j p.1 ρ') = some _ from e)
  have p2 : put j r2 ρ2 = some ρ3 := e
  refine ⟨Z, pn, ρ, r1, ρ1, s, g1, fun x H1 pe1 => ?_⟩
  obtain ⟨Z1, s1, k1⟩ := par_step pe1
  refine ⟨Z1, pn, ρ1, r2, ρ2, s1, g2, fun y H2 pe2 => ⟨x, y, rfl, ?_⟩⟩
  obtain ⟨s3, st3⟩ := pe2.put p2
  obtain ⟨s4, st4⟩ := k1 i _ _ _ _ s3 st3 p1
  rw [List.set_comm _ _ hij]
  exact q _ _ s4 st4
theorem par3_rd {G : List PV} {C : Cl} {i j l : Nat} {a b c : Ex} (hij : i ≠ j) (hil : i ≠ l) (hjl : j ≠ l) (D : Ends) (σ : L2.St) (H : Hp) (h : tS K (fun ρ => (evPar G C [i, j, l] [a, b, c] ρ).map fun ρ' => (.nx, ρ')) D σ H) : tPar3 i j l (tCons (tR K (evE G C a)) (tCons (tR K (evE G C b)) (tCons (tR K (evE G C c)) tNil))) D σ H := by
  obtain ⟨Z, pn, ρ, fl, ρ', s, e, q⟩ := h
  obtain ⟨ρ4, e, e'⟩ := Option.map_eq_some_iff.mp e
  cases e'
  obtain ⟨⟨r1, ρ1⟩, g1, e⟩ := Option.bind_eq_some_iff.mp (show (evE G C a ρ).bind (fun p => (evPar G C [j, l] [b, c] p.2).bind fun ρ' => put i p.1 ρ') = some _ from e)
  obtain ⟨ρ5, e, p1⟩ := Option.bind_eq_some_iff.mp e
  obtain ⟨⟨r2, ρ2⟩, g2, e⟩ := Option.bind_eq_some_iff.mp (show (evE G C b ρ1).bind (fun p => (evPar G C [l] [c] p.2).bind fun ρ' => put j p.1 ρ') = some _ from e)
  obtain ⟨ρ6, e, p2⟩ := Option.bind_eq_some_iff.mp e
  obtain ⟨⟨r3, ρ3⟩, g3, e⟩ := Option.bind_eq_some_iff.mp (show (evE G C c ρ2).bind (fun p => (some p.2).bind fun ρ' => put l p.1 ρ') = some _ from e)
  have p3 : put l r3 ρ3 = some ρ6 := e
  refine ⟨Z, pn, ρ, r1, ρ1, s, g1, fun x H1 pe1 => ?_⟩
  obtain ⟨Z1, s1, k1⟩ := par_step pe1
  refine ⟨Z1, pn, ρ1, r2, ρ2, s1, g2, fun y H2 pe2 => ?_⟩
  obtain ⟨Z2, s2, k2⟩ := par_step pe2
  refine ⟨Z2, pn, ρ2, r3, ρ3, s2, g3, fun z H3 pe3 => ⟨x, y, z, rfl, ?_⟩⟩
  obtain ⟨s4, st4⟩ := pe3.put p3
  obtain ⟨s5, st5⟩ := k2 j _ _ _ _ s4 st4 p2
  obtain ⟨s6, st6⟩ := k1 i _ _ _ _ s5 st5 p1
  have e1 : ((σ.set i (some x)).set j (some y)).set l (some z) = ((σ.set l (some z)).set j (some y)).set i (some x) := by
    rw [List.set_comm _ _ hij, List.set_comm _ _ hil, List.set_comm _ _ hjl]
  rw [e1]
  exact q _ _ s6 st6
/-- .. through a tuple -/
theorem PostE.grow {r : RV} {x : V} {p : Addr} {o : HO} (hp : H' p = none) (h : PostE K Z pn σ H ρ r ρ' x H') : PostE K Z pn σ H ρ r ρ' x (upd H' p o) := by
  cases r with
  | fz v =>
    obtain ⟨s, st, rp⟩ := h
    have e : Stp Z (Wof Z σ ρ') (Wof Z σ ρ') H' (upd H' p o) := Stp.grow (upd_keeps hp) s.zt
    exact ⟨s.heap (upd_keeps hp), st.trans e, rp.ext e.ext⟩
  | fr v =>
    obtain ⟨a, rfl, s, st, na, ow⟩ := h
    have e : Stp (plus Z a) (Wof (plus Z a) σ ρ') (Wof (plus Z a) σ ρ') H' (upd H' p o) := Stp.grow (upd_keeps hp) s.zt
    exact ⟨a, rfl, s.heap (upd_keeps hp), st.trans ⟨e.ext, fun b hb => e.zk b (.inl hb)⟩, na, ow.ext e.ext (e.zk a (.inr rfl))⟩
theorem par2T_rd {G : List PV} {C : Cl} {i j : Nat} {a b : Ex} (hij : i ≠ j) (D : Ends) (σ : L2.St) (H : Hp) (h : tS K (fun ρ => (evPar G C [i, j] [a, b] ρ).map fun ρ' => (.nx, ρ')) D σ H) :
    tAsg (tTup (tCons (tR K (evE G C a)) (tCons (tR K (evE G C b)) tNil))) (gTup K 2 (gCons (gName i) (gCons (gName j) gNil))) D σ H := by
  obtain ⟨Z, pn, ρ, fl, ρ', s, e, q⟩ := h
  obtain ⟨ρ4, e, e'⟩ := Option.map_eq_some_iff.mp e
  cases e'
  obtain ⟨⟨r1, ρ1⟩, g1, e⟩ := Option.bind_eq_some_iff.mp (show (evE G C a ρ).bind (fun p => (evPar G C [j] [b] p.2).bind fun ρ' => put i p.1 ρ') = some _ from e)
  obtain ⟨ρ3, e, p1⟩ := Option.bind_eq_some_iff.mp e
  obtain ⟨⟨r2, ρ2⟩, g2, e⟩ := Option.bind_eq_some_iff.mp (show (evE G C b ρ1).bind (fun p => (some p.2).bind fun ρ' => put j p.1 ρ') = some _ from e)
  have p2 : put j r2 ρ2 = some ρ3 := e
  refine ⟨Z, pn, ρ, r1, ρ1, s, g1, fun x H1 pe1 => ?_⟩
  obtain ⟨Z1, s1, k1⟩ := par_step pe1
  refine ⟨Z1, pn, ρ1, r2, ρ2, s1, g2, fun y H2 pe2 => ⟨by rw [← LIM_eq]; show 2 ≤ LIM; decide, fun p hp => ⟨p, [x, y], rfl, .inl (.inl upd_same), rfl, x, [y], rfl, y, [], rfl, rfl, ?_⟩⟩⟩
  obtain ⟨s3, st3⟩ := (pe2.grow (o := .tup [x, y]) hp).put p2
  obtain ⟨s4, st4⟩ := k1 i _ _ _ _ s3 st3 p1
  rw [List.set_comm _ _ hij]
  exact q _ _ s4 st4
theorem par3T_rd {G : List PV} {C : Cl} {i j l : Nat} {a b c : Ex} (hij : i ≠ j) (hil : i ≠ l) (hjl : j ≠ l) (D : Ends) (σ : L2.St) (H : Hp) (h : tS K (fun ρ => (evPar G C [i, j, l] [a, b, c] ρ).map fun ρ' => (.nx, ρ')) D σ H) :
    tAsg (tTup (tCons (tR K (evE G C a)) (tCons (tR K (evE G C b)) (tCons (tR K (evE G C c)) tNil)))) (gTup K 3 (gCons (gName i) (gCons (gName j) (gCons (gName l) gNil)))) D σ H := by
  obtain ⟨Z, pn, ρ, fl, ρ', s, e, q⟩ := h
  obtain ⟨ρ4, e, e'⟩ := Option.map_eq_some_iff.mp e
  cases e'
  obtain ⟨⟨r1, ρ1⟩, g1, e⟩ := Option.bind_eq_some_iff.mp (show (evE G C a ρ).bind (fun p => (evPar G C [j, l] [b, c] p.2).bind fun ρ' => put i p.1 ρ') = some _ from e)
  obtain ⟨ρ5, e, p1⟩ := Option.bind_eq_some_iff.mp e
  obtain ⟨⟨r2, ρ2⟩, g2, e⟩ := Option.bind_eq_some_iff.mp (show (evE G C b ρ1).bind (fun p => (evPar G C [l] [c] p.2).bind fun ρ' => put j p.1 ρ') = some _ from e)
  obtain ⟨ρ6, e, p2⟩ := Option.bind_eq_some_iff.mp e
  obtain ⟨⟨r3, ρ3⟩, g3, e⟩ := Option.bind_eq_some_iff.mp (show (evE G C c ρ2).bind (fun p => (some p.2).bind fun ρ' => put l p.1 ρ') = some _ from e)
  have p3 : put l r3 ρ3 = some ρ6 := e
  refine ⟨Z, pn, ρ, r1, ρ1, s, g1, fun x H1 pe1 => ?_⟩
  obtain ⟨Z1, s1, k1⟩ := par_step pe1
  refine ⟨Z1, pn, ρ1, r2, ρ2, s1, g2, fun y H2 pe2 => ?_⟩
  obtain ⟨Z2, s2, k2⟩ := par_step pe2
  refine ⟨Z2, pn, ρ2, r3, ρ3, s2, g3, fun z H3 pe3 => ⟨by rw [← LIM_eq]; show 3 ≤ LIM; decide, fun p hp => ⟨p, [x, y, z], rfl, .inl (.inl upd_same), rfl, x, [y, z], rfl, y, [z], rfl, z, [], rfl, rfl, ?_⟩⟩⟩
  obtain ⟨s4, st4⟩ := (pe3.grow (o := .tup [x, y, z]) hp).put p3
  obtain ⟨s5, st5⟩ := k2 j _ _ _ _ s4 st4 p2
  obtain ⟨s6, st6⟩ := k1 i _ _ _ _ s5 st5 p1
  have e1 : ((σ.set i (some x)).set j (some y)).set l (some z) = ((σ.set l (some z)).set j (some y)).set i (some x) := by
    rw [List.set_comm _ _ hij, List.set_comm _ _ hil, List.set_comm _ _ hjl]
  rw [e1]
  exact q _ _ s6 st6
/-! ### lists changed in place -/
theorem modify_inv {i : Nat} {f : PV → Option PV} {ρ ρ' : Env} (h : modify i f ρ = some ρ') : ∃ v u, IsOw ρ i v ∧ f v = some u ∧ ((ρ[i]? = some (Slot.ow v) ∧ ρ' = ρ.set i (.ow u)) ∨ (ρ[i]? = some (Slot.pn v) ∧ ρ' = ρ.set i (.pn u))) := by
  unfold modify at h
  split at h
  · rename_i v e
    obtain ⟨u, e1, e2⟩ := Option.map_eq_some_iff.mp h
    exact ⟨v, u, .inl e, e1, .inl ⟨e, e2.symm⟩⟩
  · rename_i v e
    obtain ⟨u, e1, e2⟩ := Option.map_eq_some_iff.mp h
    exact ⟨v, u, .inr e, e1, .inr ⟨e, e2.symm⟩⟩
  · cases h
theorem own_lst {W : AS} {H : Hp} {xs : List PV} {a : Addr} (h : Own K W H (.lst xs) a) : ∃ vs, H a = some (.lst vs) ∧ Reps K W H xs vs := h
theorem set_rd {gv gi : Env → Option (RV × Env)} {i : Nat} (D : Ends) (σ : L2.St) (H : Hp) (h : tS K (fun ρ => (gv ρ).bind fun p => (peek i p.2).bind fun _ => (gi p.2).bind fun q => q.1.val.int?.bind fun k =>
      (modify i (fun l => match l with
        | .lst xs => (EV.ixN xs.length k).map fun j => .lst (xs.set j p.1.val)
        | _ => none) q.2).map fun ρ' => (.nx, ρ')) D σ H) : tAsg (tR K gv) (gSub (tVar i) (tR K gi) rSetL) D σ H := by
  obtain ⟨Z, pn, ρ, fl, ρ', s, e, q⟩ := h
  obtain ⟨⟨r1, ρ1⟩, g1, e⟩ := Option.bind_eq_some_iff.mp e
  obtain ⟨pk, g0, e⟩ := Option.bind_eq_some_iff.mp e
  obtain ⟨⟨r2, ρ2⟩, g2, e⟩ := Option.bind_eq_some_iff.mp e
  obtain ⟨k, d1, e⟩ := Option.bind_eq_some_iff.mp e
  obtain ⟨ρ3, g3, e⟩ := Option.map_eq_some_iff.mp e
  cases e
  refine ⟨Z, pn, ρ, r1, ρ1, s, g1, fun x H1 pe1 => ?_⟩
  obtain ⟨s1, st1, rp1⟩ := pe1.freeze
  obtain ⟨o, eo, _⟩ := s1.peek g0
  refine ⟨o, eo, Z, pn, ρ1, r2, ρ2, s1, g2, fun y H2 pe2 => ?_⟩
  obtain ⟨s2, st2, rp2⟩ := pe2.freeze
  have hy : y = .int k := by
    cases hv : r2.val with
    | int i' => rw [hv] at rp2 d1; cases d1; exact rp2
    | _ => rw [hv] at d1; cases d1
  subst hy
  obtain ⟨v, u, ho, hu, hr⟩ := modify_inv g3
  obtain ⟨a, ea, nz, ow⟩ := s2.ow i v ho
  rw [eo] at ea
  cases ea
  cases v with
  | lst xs =>
    obtain ⟨j, hj, hu⟩ := Option.map_eq_some_iff.mp (show (EV.ixN xs.length k).map (fun j => PV.lst (xs.set j r1.val)) = some u from hu)
    subst hu
    obtain ⟨vs, hH, rv⟩ := own_lst ow
    refine ⟨a, vs, k, j, rfl, rfl, hH, by rw [← ixN_eq, rv.length]; exact hj, ?_⟩
    obtain ⟨s3, st3⟩ := s2.change ho eo (rv.set j (rp1.ext st2.ext)) hr
    exact q _ _ s3 ((st1.trans st2).trans st3)
  | _ => cases hu
theorem app_rd {g : Env → Option (RV × Env)} {i : Nat} (D : Ends) (σ : L2.St) (H : Hp) (h : tS K (fun ρ => (peek i ρ).bind fun l => l.lst?.bind fun _ => (g ρ).bind fun p => (modify i (fun l => match l with
        | .lst xs => if xs.length < LIM then some (.lst (xs ++ [p.1.val])) else none
        | _ => none) p.2).map fun ρ' => (.nx, ρ')) D σ H) : tDrop (tBM K "list" rAppend (tVar i) (tCons (tR K g) tNil)) D σ H := by
  obtain ⟨Z, pn, ρ, fl, ρ', s, e, q⟩ := h
  obtain ⟨pk, g0, e⟩ := Option.bind_eq_some_iff.mp e
  obtain ⟨pl, g9, e⟩ := Option.bind_eq_some_iff.mp e
  obtain ⟨⟨r1, ρ1⟩, g1, e⟩ := Option.bind_eq_some_iff.mp e
  obtain ⟨ρ3, g3, e⟩ := Option.map_eq_some_iff.mp e
  cases e
  obtain ⟨o, eo, br⟩ := s.peek g0
  have hty : tyV K "list" o H := by
    cases pk with
    | lst zs =>
      obtain ⟨b, vs, rfl, h1, _⟩ := br
      exact .inl ⟨rfl, vs, h1⟩
    | _ => cases g9
  refine ⟨o, eo, hty, Z, pn, ρ, r1, ρ1, s, g1, fun x H1 pe1 => ?_⟩
  obtain ⟨s1, st1, rp1⟩ := pe1.freeze
  obtain ⟨v, u, ho, hu, hr⟩ := modify_inv g3
  obtain ⟨a, ea, nz, ow⟩ := s1.ow i v ho
  rw [eo] at ea
  cases ea
  cases v with
  | lst xs =>
    have hu : (if xs.length < LIM then some (PV.lst (xs ++ [r1.val])) else none) = some u := hu
    split at hu
    · rename_i hz
      cases hu
      obtain ⟨vs, hH, rv⟩ := own_lst ow
      refine ⟨a, vs, x, rfl, rfl, hH, by rw [rv.length, ← LIM_eq]; exact hz, ?_⟩
      obtain ⟨s3, st3⟩ := s1.change ho eo (rv.app (Reps.one rp1)) hr
      exact q _ _ s3 (st1.trans st3)
    · cases hu
  | _ => cases hu
/-! ### loops -/
theorem while_rd {gc : Env → Option (RV × Env)} {gb : Env → Option (Fl × Env)} {fuel : Nat} (D : Ends) (σ : L2.St) (H : Hp) (h : tS K (fun ρ => whileLoop (fun ρ1 => tst (gc ρ1)) gb fuel ρ) D σ H) : tWhile (tT K fun ρ => tst (gc ρ)) (tS K gb) D σ H := by
  obtain ⟨Z, pn, ρ, fl, ρ', s, e, q⟩ := h
  refine ⟨fun m σ1 H1 => ∃ ρ1, SR K Z pn σ1 H1 ρ1 ∧ Stp Z (Wof Z σ ρ) (Wof Z σ1 ρ1) H H1 ∧ whileLoop (fun ρ1 => tst (gc ρ1)) gb m ρ1 = some (fl, ρ'), ⟨fuel, ρ, s, Stp.refl, e⟩, ?_⟩
  rintro m σ1 H1 ⟨ρ1, s1, st1, e1⟩
  cases m with
  | zero => cases e1
  | succ m =>
    obtain ⟨⟨b, ρ2⟩, g1, e1⟩ := Option.bind_eq_some_iff.mp (show (tst (gc ρ1)).bind _ = some (fl, ρ') from e1)
    refine ⟨Z, pn, ρ1, b, ρ2, s1, g1, fun H2 s2 st2 => ?_⟩
    cases b with
    | false =>
      simp only [Bool.false_eq_true, if_false] at e1 ⊢
      cases e1
      exact q _ _ s2 (st1.trans st2)
    | true =>
      simp only [if_true] at e1 ⊢
      obtain ⟨⟨f, ρ3⟩, g2, e1⟩ := Option.bind_eq_some_iff.mp e1
      refine ⟨fun σ' H' => ∃ ρ1, SR K Z pn σ' H' ρ1 ∧ Stp Z (Wof Z σ ρ) (Wof Z σ' ρ1) H H' ∧ whileLoop (fun ρ1 => tst (gc ρ1)) gb m ρ1 = some (fl, ρ'), fun σ' H' hh => ⟨m, Nat.lt_succ_self m, hh⟩, Z, pn, ρ2, f, ρ3, s2, g2, ?_⟩
      cases f with
      | nx => exact fun σ' H' s3 st3 => ⟨ρ3, s3, (st1.trans st2).trans st3, e1⟩
      | ct => exact fun σ' H' s3 st3 => ⟨ρ3, s3, (st1.trans st2).trans st3, e1⟩
      | br =>
        cases e1
        exact fun σ' H' s3 st3 => q _ _ s3 ((st1.trans st2).trans st3)
      | rt r =>
        cases e1
        exact fun σ' x H' p => q σ' x H' (p.pre (st1.trans st2))
theorem for_rd {gi : Env → Option (List PV × Env)} {gb : Env → Option (Fl × Env)} {pt : Pt} (D : Ends) (σ : L2.St) (H : Hp) (h : tS K (fun ρ => (gi ρ).bind fun q => forLoop (fun x ρ1 => (bindP pt x ρ1).bind fun ρ2 => gb ρ2) q.1 q.2) D σ H) : tFor (tI K gi) (tG K pt) (tS K gb) D σ H := by
  obtain ⟨Z, pn, ρ, fl, ρ', s, e, q⟩ := h
  obtain ⟨⟨items, ρ0⟩, g0, e⟩ := Option.bind_eq_some_iff.mp e
  refine ⟨Z, pn, ρ, items, ρ0, s, g0, fun J src H0 s0 st0 fd sr0 => ?_⟩
  refine ⟨fun i m σ1 H1 => m = items.length - i ∧ i ≤ items.length ∧ ∃ ρ1, SR K Z pn σ1 H1 ρ1 ∧ Stp Z (Wof Z σ ρ) (Wof Z σ1 ρ1) H H1 ∧ src (Wof Z σ1 ρ1) H1 ∧ forLoop (fun x ρ1 => (bindP pt x ρ1).bind fun ρ2 => gb ρ2) (items.drop i) ρ1 = some (fl, ρ'),
    ⟨items.length, rfl, Nat.zero_le _, ρ0, s0, st0, sr0, e⟩, ?_⟩
  rintro i m σ1 H1 ⟨rfl, hi, ρ1, s1, st1, sr1, e1⟩
  by_cases hlt : i < items.length
  · right
    refine ⟨fd.go _ i H1 sr1 hlt, fun σ' H' => i + 1 ≤ items.length ∧ ∃ ρ1, SR K Z pn σ' H' ρ1 ∧ Stp Z (Wof Z σ ρ) (Wof Z σ' ρ1) H H' ∧ src (Wof Z σ' ρ1) H' ∧ forLoop (fun x ρ1 => (bindP pt x ρ1).bind fun ρ2 => gb ρ2) (items.drop (i + 1)) ρ1 = some (fl, ρ'), fun σ' H' ⟨h1, h2⟩ => ⟨items.length - (i + 1), by omega, rfl, h1, h2⟩, fun x H2 hy => ?_⟩
    have hv : items[i]? = some items[i] := List.getElem?_eq_getElem hlt
    have hdrop : items.drop i = items[i] :: items.drop (i + 1) := List.drop_eq_getElem_cons hlt
    rw [hdrop] at e1
    obtain ⟨⟨f, ρ4⟩, t1, e1⟩ := Option.bind_eq_some_iff.mp (show ((bindP pt items[i] ρ1).bind fun ρ2 => gb ρ2).bind _ = some (fl, ρ') from e1)
    obtain ⟨ρ2, b1, t1⟩ := Option.bind_eq_some_iff.mp t1
    obtain ⟨s2, st2, rx, _⟩ := fd.yld _ _ _ _ _ i items[i] x H2 sr1 s1 hv hy
    have sr2 := fd.ext _ _ _ _ st2.ext sr1
    refine ⟨Z, pn, ρ1, items[i], ρ2, s2, rx, b1, fun σ3 s3 w3 _ => ⟨Z, pn, ρ2, f, ρ4, s3, t1, ?_⟩⟩
    have st3 : Stp Z (Wof Z σ ρ) (Wof Z σ3 ρ2) H H2 := (st1.trans st2).trans (Stp.less w3)
    have sr3 : src (Wof Z σ3 ρ2) H2 := fd.ext _ _ _ _ (Ext.less w3) sr2
    cases f with
    | nx => exact fun σ' H' s4 st4 => ⟨hlt, ρ4, s4, st3.trans st4, fd.ext _ _ _ _ st4.ext sr3, e1⟩
    | ct => exact fun σ' H' s4 st4 => ⟨hlt, ρ4, s4, st3.trans st4, fd.ext _ _ _ _ st4.ext sr3, e1⟩
    | br =>
      cases e1
      exact fun σ' H' s4 st4 => q _ _ s4 (st3.trans st4)
    | rt r =>
      cases e1
      exact fun σ' x H' p => q σ' x H' (p.pre st3)
  · left
    have hi' : i = items.length := by omega
    subst hi'
    refine ⟨fd.stop _ H1 sr1, ?_⟩
    rw [List.drop_length] at e1
    cases (show some (Fl.nx, ρ1) = some (fl, ρ') from e1)
    exact q _ _ s1 st1
end
end EV
set_option Elab.async false
set_option linter.all false
set_option maxRecDepth 100000
namespace EV
open PySem PySem.Spec PyProof.Rows L2
/-- (*name, ..) = a tuple: what is over goes into a new list -/
def gStar (K : PySem.W.Frag) (i n : Nat) (t : TGs) : TG := fun x σ H Q => ∃ a xs, x = .ref a ∧ SqT K H a xs ∧ n ≤ xs.length ∧
  ∀ p, H p = none → t (xs.drop (xs.length - n)) (σ.set i (some (.ref p))) (upd H p (.lst (xs.take (xs.length - n)))) Q
section
variable {X : Cx}
theorem pg_star {i n : Nat} {y : Str} {yp sp pos : Pos} {k : Nat} {es : List Expr} {t : TGs} (hc : X.calm = true) (hN : X.N.Nodup) (hi : X.N[i]? = some y) (hy : L2.Loc X.env.scope y) (hf : X.fn y = true ∨ X.env.scope.names.lookup y = some .local)
    (h : PGs X es t) (hn : (assignEach es X.env).length = n) : PG X (.Tuple (.Starred (.Name y yp) sp :: es) k pos) (gStar X.K i n t) := by
  refine ⟨fun pins s σ H v u Q I r hw => ?_⟩
  obtain ⟨a, xs, rfl, hq, hl, hw⟩ := hw
  obtain rfl : u = Value.ref a := r
  obtain ⟨its, rv, tup, hz⟩ := I.tuple hq
  have len : its.length = xs.length := rv.length.symm
  have calm := I.ok.hd hc
  have out : a ≠ s.heap.objs.size := by
    obtain ⟨ob, e, _⟩ := tup
    exact Nat.ne_of_lt (Heap.lt_size e)
  have low : ∃ ob, s.heap.get? a = some ob := by
    obtain ⟨ob, e, _⟩ := tup
    exact ⟨ob, e⟩
  obtain ⟨ob, low⟩ := low
  have each : assignEach (.Starred (.Name y yp) sp :: es) X.env = (true, assign (.Name y yp) X.env) :: assignEach es X.env := rfl
  rw [assign_Tuple]
  refine wpAny_bind (wpAny_standAt ?_)
  rw [each]
  unfold unpack
  have first : ((true, assign (.Name y yp) X.env) :: assignEach es X.env).findIdx? (·.1) = some 0 := by simp [List.findIdx?_cons]
  have many : ((true, assign (.Name y yp) X.env) :: assignEach es X.env).length = n + 1 := by rw [List.length_cons, hn]
  rw [first, many]
  refine wpAny_bind (wpAny_holding ?_)
  unfold unpackItems
  refine wpAny_bind ?_
  unfold notIterableAtAll
  refine wpAny_bind (wpAny_specialOf tup.typeIs slot_tuple_iter.lookup (wpAny_pure ?_))
  simp only [Bool.false_eq_true, if_false]
  refine wpAny_bind (wpAny_holding (iter_tuple tup ?_))
  refine wpAny_bind (wpAny_holding (wpAny_pure ?_))
  rw [if_neg (show ¬ (([] : List Value).length < 0) by decide)]
  refine wpAny_bind (wpAny_holding (PySem.W.kun_collect (T := "tuple_iterator") (.inr (.inr (.inr rfl))) (Walks.tuple (A := X.A.in1) calm s.heap.objs.size a out its.toArray) (fun j z st => st.1.typeIs) (k := 0) (Nat.zero_le _)
    ⟨⟨_, Heap.get?_push_size _ rfl, rfl, rfl⟩, tup.push _⟩ (Heap.lt_size (Heap.get?_push_size _ rfl)) (Heap.lt_size (Heap.get?_push_of_some _ low)) (fun h2 tk keep => ?_) (by rw [List.size_toArray, len]; exact hz)))
  have e0 : (its.toArray).toList.drop 0 = its := by rw [List.drop_zero]
  rw [e0]
  have e1 : its.length - (n + 1 - 1 - 0) = xs.length - n := by rw [len]; omega
  show wpAny _ _ (if its.length < n + 1 - 1 - 0 then _ else _) _ _ _
  rw [if_neg (show ¬ (its.length < n + 1 - 1 - 0) by rw [len]; omega)]
  show wpAny _ _ (newList (its.take (its.length - (n + 1 - 1 - 0))) >>= fun d => pure ([] ++ [d] ++ its.drop (its.length - (n + 1 - 1 - 0)))) _ _ _
  rw [e1]
  have I1 : Inv X pins σ H { s with heap := h2, toks := tk } := I.kept (h' := h2) (t' := tk) fun b o e => keep b o (Nat.ne_of_lt (Heap.lt_size e)) (Heap.get?_push_of_some _ e)
  refine wpAny_bind (wpAny_newList (wpAny_pure ?_) ?_)
  · have np : H h2.objs.size = none := I1.hok.fresh (Nat.le_refl _)
    have I2 : Inv X pins σ (upd H h2.objs.size (.lst (xs.take (xs.length - n)))) { s with heap := h2.push { cls := .type "list", data := .seq (its.take (xs.length - n)).toArray }, toks := tk } :=
      I1.laid (t' := tk) (a := h2.objs.size) (o := .lst (xs.take (xs.length - n))) (h' := h2.push { cls := .type "list", data := .seq (its.take (xs.length - n)).toArray }) (fun b o e => Heap.get?_push_of_some _ e) (Nat.le_refl _)
        ⟨Nat.le_trans (by rw [List.length_take]; exact Nat.min_le_right _ _) hz, its.take (xs.length - n), _, rv.take _, Heap.get?_push_size _ rfl⟩
    show wpAny (model X.prog X.w) X.A (assignInOrder (assign (.Name y yp) X.env :: (assignEach es X.env).map (·.2)) (.ref h2.objs.size :: its.drop (xs.length - n))) _ _ _
    refine assignInOrder_cons (wpAny_assign_Name (store_ok I2 hN hi hy (show RelV (.ref h2.objs.size) (.ref h2.objs.size) from rfl) (fun s3 I3 => ?_) hf))
    exact h.run pins s3 _ _ _ _ Q I3 (rv.drop _) (hw _ np)
  · rw [List.length_take, len]
    omega
end
section
variable {K : PySem.W.Frag}
theorem star_rd {g : Env → Option (RV × Env)} {i : Nat} {ps : List Pt} (D : Ends) (σ : L2.St) (H : Hp) (h : tS K (fun ρ => (g ρ).bind fun q => q.1.val.tup?.bind fun xs => if ps.length ≤ xs.length then (put i (.fr (.lst (xs.take (xs.length - ps.length)))) q.2).bind fun ρ1 => (bindPs ps (xs.drop (xs.length - ps.length)) ρ1).map fun ρ' => (.nx, ρ') else none) D σ H) :
    tAsg (tR K g) (gStar K i ps.length (tGs K ps)) D σ H := by
  obtain ⟨Z, pn, ρ, fl, ρ', s, e, q⟩ := h
  obtain ⟨⟨r, ρ1⟩, g1, e⟩ := Option.bind_eq_some_iff.mp e
  obtain ⟨xs, d1, e⟩ := Option.bind_eq_some_iff.mp e
  split at e
  · rename_i hl
    obtain ⟨ρ2, p2, e⟩ := Option.bind_eq_some_iff.mp e
    obtain ⟨ρ3, b3, e⟩ := Option.map_eq_some_iff.mp e
    cases e
    refine ⟨Z, pn, ρ, r, ρ1, s, g1, fun x H1 p => ?_⟩
    obtain ⟨s1, st1, rp⟩ := p.freeze
    have d2 : r.val = .tup xs := by
      cases hv : r.val with
      | tup ys => rw [hv] at d1; cases d1; rfl
      | _ => rw [hv] at d1; cases d1
    rw [d2] at rp
    obtain ⟨a, vs, rfl, h1, h2⟩ := rp
    refine ⟨a, vs, rfl, h1.sq, by rw [h2.length]; exact hl, fun p hp => ?_⟩
    rw [h2.length]
    have pe := PostE.lst s1 (h2.take (xs.length - ps.length)) hp
    obtain ⟨s2, st2⟩ := pe.put p2
    exact ⟨Z, pn, ρ2, xs.drop (xs.length - ps.length), ρ', s2, (h2.drop _).ext st2.ext, by rw [List.length_drop]; omega, b3, fun σ' s3 w _ => q _ _ s3 ((st1.trans st2).trans (Stp.less w))⟩
  · cases e
end
end EV
set_option Elab.async false
set_option linter.all false
set_option maxRecDepth 100000
namespace EV
open PySem PySem.Spec PyProof.Rows L2
theorem not_t {b : Bool} (h : (!b) = true) : b = false := by cases b <;> first | rfl | cases h
theorem and2 {a b : Bool} (h : (a && b) = true) : a = true ∧ b = true := by cases a <;> cases b <;> first | exact ⟨rfl, rfl⟩ | cases h
/-! ### an exception that is on its way -/
section
variable (K : PySem.W.Frag) (mg : Str → Option Value) (T : Tab)
def ExR (W : AS) (H : Hp) (x : Exn) (cls : Value) (d : Option Addr) : Prop :=
  ∃ (I : ExI) (C dd : Addr) (fl : List (Str × V)), T.excs[x.1]? = some I ∧ mg I.name = some (.ref C) ∧ cls = .ref C ∧ d = some dd ∧ H dd = some (.xd fl) ∧ ¬ W dd ∧
    ∀ (i : Nat) (f : Str), I.fs[i]? = some f → ∃ v y, x.2[i]? = some v ∧ fl.lookup f = some y ∧ Rep K W H v y
/-- a def's promise: it raises what C says -/
def spEX (C : Cl) (f n : Nat) : Sp := fun vs H _ E => ∃ (Z : AS) (us : List PV) (x : Exn), us.length = n ∧ xcall C f us = some x ∧ ArgsAt K Z H (us.map fun v => (false, v)) vs ∧
  ∀ cls d H', Stp Z (W0 Z (us.map fun v => (false, v)) vs) (W0 Z (us.map fun v => (false, v)) vs) H H' → ExR K mg T (W0 Z (us.map fun v => (false, v)) vs) H' x cls d → E cls d H'
def tXX (W : WX) (g : Env → Option (Exn × Env)) (σ : L2.St) (H : Hp) : Prop := ∃ Z pn ρ x ρ', SR K Z pn σ H ρ ∧ g ρ = some (x, ρ') ∧
  ∀ σ' H' cls d, SR K Z pn σ' H' ρ' → Stp Z (Wof Z σ ρ) (Wof Z σ' ρ') H H' → ExR K mg T (Wof Z σ' ρ') H' x cls d → W cls d σ' H'
abbrev tX (W : WX) (g : Env → Option (Exn × Env)) : TE := fun σ H _ => tXX K mg T W g σ H
end
section
variable {K : PySem.W.Frag} {mg : Str → Option Value} {T : Tab}
theorem ExR.ext {W W' : AS} {H H' : Hp} {x : Exn} {cls : Value} {d : Option Addr} (e : Ext W W' H H') (h : ExR K mg T W H x cls d) : ExR K mg T W' H' x cls d := by
  obtain ⟨I, C, dd, fl, h1, h2, h3, h4, h5, h6, h7⟩ := h
  obtain ⟨g1, g2⟩ := e dd _ h5 h6
  exact ⟨I, C, dd, fl, h1, h2, h3, h4, g1, g2, fun i f q => by
    obtain ⟨v, y, a, b, c⟩ := h7 i f q
    exact ⟨v, y, a, b, c.ext e⟩⟩
theorem vals_eq : ∀ {bs : List Bw} {us : List PV}, vals? bs = some us → bs = us.map Bw.val
  | [], _, h => by cases h; rfl
  | .val v :: r, us, h => by
    obtain ⟨ws, e1, e2⟩ := Option.map_eq_some_iff.mp (show (vals? r).map (v :: ·) = some us from h)
    subst e2
    rw [List.map_cons, vals_eq e1]
  | .slot _ :: _, _, h => by cases h
theorem all_false {us : List PV} {i : Nat} {v : PV} (h : (us.map fun v => (false, v))[i]? = some (true, v)) : False := by
  rw [List.getElem?_map] at h
  obtain ⟨u, _, e⟩ := Option.map_eq_some_iff.mp h
  cases e
theorem callX_in {C : Cl} {f n : Nat} {W : WX} {Z : AS} {pn : Nat → Option Addr} {σ : L2.St} {H1 : Hp} {ρ' : Env} {us : List PV} {xs : List V} {x : Exn} (hn : us.length = n) (g3 : xcall C f us = some x) (s1 : SR K Z pn σ H1 ρ') (at1 : BwsAt K (Wof Z σ ρ') σ H1 (us.map Bw.val) xs)
    (q : ∀ cls d H', SR K Z pn σ H' ρ' → Stp Z (Wof Z σ ρ') (Wof Z σ ρ') H1 H' → ExR K mg T (Wof Z σ ρ') H' x cls d → W cls d σ H') (Q : VK) : spEX K mg T C f n xs H1 Q (WE W σ) := by
  have gv := avGet_vals (ρ := ρ') us
  have sl : (slots (us.map Bw.val)).length ≤ 1 := by rw [slots_vals]; exact Nat.zero_le _
  refine ⟨Zc Z σ ρ' (us.map fun v => (false, v)) xs, us, x, hn, g3, args_at s1 at1 gv sl, fun cls d H' st ex => ?_⟩
  have wi := w0_iff s1 at1 gv
  have p := ret_post (r := .fz .non) (fin := []) (x := .non) s1 at1 gv sl ⟨st, rfl, fun i v a h1 _ => (all_false h1).elim⟩ (avPut_none (slots_vals us))
  exact q cls d H' p.1 p.2.1 (ex.ext (Ext.less fun b z => (wi b).mpr z))
theorem callX_rd {C : Cl} {f n : Nat} {W : WX} {g : Env → Option (List Bw × Env)} (hn : ∀ ρ bs ρ', g ρ = some (bs, ρ') → bs.length = n) (σ : L2.St) (H : Hp) (Q : VK)
    (h : tX K mg T W (fun ρ => (g ρ).bind fun p => (vals? p.1).bind fun us => (xcall C f us).map fun x => (x, p.2)) σ H Q) : tCallS (spEX K mg T C f n) (WE W) (tAs K g) σ H Q := by
  obtain ⟨Z, pn, ρ, x, ρ', s, e, q⟩ := h
  obtain ⟨⟨bs, ρ1⟩, g1, e⟩ := Option.bind_eq_some_iff.mp e
  obtain ⟨us, g2, e⟩ := Option.bind_eq_some_iff.mp e
  obtain ⟨x', g3, e⟩ := Option.map_eq_some_iff.mp e
  cases e
  have hbs : bs = us.map Bw.val := vals_eq g2
  subst hbs
  refine ⟨Z, pn, ρ, us.map .val, ρ1, s, g1, fun xs H1 s1 e1 at1 => ?_⟩
  refine callX_in (by have := hn _ _ _ g1; rw [List.length_map] at this; exact this) g3 s1 at1 (fun cls d H' s2 st ex => q σ H' cls d s2 (e1.trans st) ex) Q
end
/-! ### what a context must know -/
/-- what __init__ of an exception class does -/
def spInit (K : PySem.W.Frag) (fs : List Str) : Sp := fun vs H Q _ => ∃ (a C : Addr) (ws : List V), vs = .ref a :: ws ∧ ws.length = fs.length ∧ H a = some (exo a C none) ∧ OexC K C ∧ (∀ f ∈ fs, PySem.W.findIn K (.ref C) f = some none) ∧
  ∀ (dx : Addr) (H2 : Hp), H dx = none → dx ≠ a → H2 a = some (exo a C (some dx)) → H2 dx = some (exd dx (fs.zip ws).reverse) → (∀ b, b ≠ a → b ≠ dx → H2 b = H b) → Q .non H2
structure ExcAt (P : Program) (w : World) (K : PySem.W.Frag) (mg : Str → Option Value) (base : Heap) (I : ExI) : Prop where
  ex : ∃ (C fI : Addr) (fd : FuncData) (ps : List Str), mg I.name = some (.ref C) ∧ OexC K C ∧ XfC K C ∧ (∀ f ∈ I.fs, PySem.W.findIn K (.ref C) f = some none) ∧ PySem.W.exmOne K (.ref C) (.ref C) = some true ∧
    PySem.W.findIn K (.ref C) "__init__" = some (some (.ref fI)) ∧ PySem.W.typeIn K (.ref fI) = some (.type "function") ∧ FnOk P w K mg base CX0 1 fI fd ps (spInit K I.fs) ∧ Binds K fd ps []
  nd : I.fs.Nodup
  few : I.fs.length ≤ 10
structure XX (T : Tab) (C : Cl) (X : Cx) : Prop where
  hs : X.stack = X.env :: X.outer
  hf : X.env.frame = some X.env.locals
  room : (∃ r, C XROOM [] = some r) → Room 2 X.A
  call : ∀ (f : Nat) (x : Str) (ps : List Str), T.fns[f]? = some (x, ps) → ∃ (k : Nat) (a : Addr) (fd : FuncData), FnOk X.prog X.w X.K X.mg X.base (L2.CX X.prog X.w) k a fd ps (spEX X.K X.mg T C f ps.length) ∧ Room k X.A ∧ X.mg x = some (.ref a) ∧
    PySem.W.keepIn X.K (.ref a) = true ∧ Binds X.K fd ps []
  kw : ∀ (f : Nat) (x : Str) (ps : List Str) (n : Nat) (ks : List Str) (order : List Nat), T.fns[f]? = some (x, ps) → T.kws.contains (f, n, ks, order) = true → (∃ (k : Nat) (a : Addr) (fd : FuncData), FnOk X.prog X.w X.K X.mg X.base (L2.CX X.prog X.w) k a fd ps (spEX X.K X.mg T C f ps.length) ∧ Room k X.A ∧ X.mg x = some (.ref a) ∧
    PySem.W.keepIn X.K (.ref a) = true ∧ L2.KBn X.K fd ps n ks (fun us ws => (pick (us ++ ws) order).getD []) (fun vs zs => (pick (vs ++ zs) order).getD [])) ∧ order.length = ps.length
  exc : ∀ (j : Nat) (I : ExI), T.excs[j]? = some I → ExcAt X.prog X.w X.K X.mg X.base I
section
variable {T : Tab} {G : List PV} {C : Cl} {N : List Str} {sc : Scope} {top : Bool} {X : Cx}
theorem XX.tr (k : XX T C X) (pn : List (Addr × Obj)) (xe : Value → Shared → Prop) : XX T C (X.tr pn xe) := ⟨k.hs, k.hf, k.room, k.call, k.kw, k.exc⟩
theorem XOk.tr (k : XOk T G C N sc top X) (pn : List (Addr × Obj)) (xe : Value → Shared → Prop) : XOk T G C N sc top (X.tr pn xe) := ⟨k.hN, k.hnd, k.hsc, k.hfn, k.calm, k.hu, k.glo, k.bl, k.tab, k.call, k.kw⟩
theorem ps_imp' {st : Stmt} {t t' : TS} (h : PS X st t) (q : ∀ D σ H, t' D σ H → t D σ H) : PS X st t' := ⟨fun pins s σ H D I hw => h.run pins s σ H D I (q D σ H hw)⟩
theorem pe_or {e : Expr} {t t' : TE} (h : PE X e t) (h' : PE X e t') : PE X e (fun σ H Q => t σ H Q ∨ t' σ H Q) := ⟨fun pins s σ H Q I hw => hw.elim (h.run pins s σ H Q I) (h'.run pins s σ H Q I)⟩
theorem ps_or {e : Stmt} {t t' : TS} (h : PS X e t) (h' : PS X e t') : PS X e (fun D σ H => t D σ H ∨ t' D σ H) := ⟨fun pins s σ H Q I hw => hw.elim (h.run pins s σ H Q I) (h'.run pins s σ H Q I)⟩
theorem pss_or {e : List Stmt} {t t' : TS} (h : PSs X e t) (h' : PSs X e t') : PSs X e (fun D σ H => t D σ H ∨ t' D σ H) := ⟨fun pins s σ H Q I hw => hw.elim (h.run pins s σ H Q I) (h'.run pins s σ H Q I)⟩
theorem vacE {e : Expr} {W : WX} {g : Env → Option (Exn × Env)} (h : ∀ ρ, g ρ = none) : PE X e (tX X.K X.mg T W g) := ⟨fun pins s σ H Q I hw => by
  obtain ⟨_, _, ρ, _, _, _, e, _⟩ := hw
  rw [h ρ] at e
  cases e⟩
theorem vacA {es : List Expr} {W : WX} {g : Env → Option (Exn × Env)} (h : ∀ ρ, g ρ = none) : PA X es (fun σ H _ => tXX X.K X.mg T W g σ H) := ⟨fun pos pins s σ H Q I hw => by
  obtain ⟨_, _, ρ, _, _, _, e, _⟩ := hw
  rw [h ρ] at e
  cases e⟩
/-- f(k = v, ..) that raises -/
def tCallNS0 (m : Nat) (sp : Sp) (gV : List V → List V → List V) (E : L2.St → XK) (tk : TA) : TE := fun σ H Q => tk σ H fun zs H2 => zs.length = m ∧ sp (gV [] zs) H2 Q (E σ)
theorem pe_callNS0 {CX : CXT} {k : Nat} {f : Addr} {fd : FuncData} {ps ks : List Str} {sp : Sp} {E : L2.St → XK} {x : Str} {p pos : Pos} {kws : List Keyword} {tk : TA} {g : List Value → List Value → List Value} {gV : List V → List V → List V}
    (F : FnOk X.prog X.w X.K X.mg X.base CX k f fd ps sp) (hr : Room k X.A) (hg : Gl X x) (hm : X.mg x = some (.ref f)) (hk : PySem.W.keepIn X.K (.ref f) = true) (hb : KBn X.K fd ps 0 ks g gV) (hx : ∀ σ, PassesAt CX X σ (E σ))
    (hkw : PK X kws tk) (hall : (backToKw pos (keywordEach kws X.env)).all (·.1.isSome) = true) (hks : (backToKw pos (keywordEach kws X.env)).filterMap (·.1) = ks)
    (hdb : (x == ("__debug__" : Str)) = false) (hpl : (backToKw pos (keywordEach kws X.env)).any (·.1.isNone) = false) :
    PE X (.Call (.Name x p) [] kws pos) (tCallNS0 ks.length sp gV E tk) := by
  refine ⟨fun pins s σ H Q I h => ?_⟩
  refine wpAny_Call_Name_kw (ld_glob I hg hm ?_ hdb)
  refine PySem.W.callWith_KW0 (h₀ := X.base) I.ok.mod.kin hk hall ?_ (by rw [hpl]; rfl)
  refine thn (hkw.run pos pins s σ H _ I h) fun ws s2 ⟨zs, H2, I2, rz, l2, q2⟩ => ⟨I2.kIn, ?_⟩
  rw [hks]
  have r2 := hb.rel (vs := []) (us := []) .nil rz
  show wpAny (model X.prog X.w) X.A (call (.ref f) [] (ks.zip ws)) (EP X pins σ Q) X.xe s2
  refine wpAny_call (codeAny_mono (F.run X.A X.stack s2 H2 ⟨[], ks.zip ws⟩ (g [] ws) (gV [] zs) Q (E σ) hr I2.env0 (hb.to s2 [] ws I2.kIn rfl (rz.length.symm.trans l2)) r2 q2) fun r s' hq => ?_)
  cases r with
  | error e => exact hx σ pins H2 s2 e s' I2 hq
  | ok fl =>
    cases fl with
    | ret u => exact I2.after hq
    | next => exact False.elim hq
    | brk => exact False.elim hq
    | cont => exact False.elim hq
def SX (T : Tab) (G : List PV) (C : Cl) (N : List Str) (c : Ex) (g : Env → Option (Exn × Env)) : Prop := ∀ (sc : Scope) (top : Bool) (X : Cx) (W : WX), XOk T G C N sc top X → XX T C X → Takes X W → ∀ e, okE T N c sc top e = true → PE X e (tX X.K X.mg T W g)
set_option maxHeartbeats 4000000
theorem sXC (c : Ex) : SX T G C N c (exC G C c) := fun sc top X W k kx tk e h => by
  cases c with
  | call f args =>
    cases args with
    | nil => exact vacE fun _ => rfl
    | cons c1 cr =>
      unfold okE at h
      split at h
      · rename_i x _ xs _
        simp only [Bool.and_eq_true] at h
        obtain ⟨⟨⟨⟨h1, hg⟩, hn⟩, hs⟩, ha⟩ := h
        split at h1
        · rename_i y ps hf
          rw [Bool.and_eq_true] at h1
          have e1 : y = x := by simpa using h1.1
          have e2 : ps.length = (c1 :: cr).length := by simpa using h1.2
          subst e1
          obtain ⟨kk, a, fd, F, hr, hm, hk, hb⟩ := kx.call f y ps hf
          have pa := sAs (c1 :: cr) sc top X k xs ha
          have rd := callX_rd (K := X.K) (mg := X.mg) (T := T) (C := C) (f := f) (n := ps.length) (W := W) (g := evAs G C (c1 :: cr)) (fun ρ bs ρ' q => by rw [e2]; exact evAs_len (ρ := ρ) (c1 :: cr) hs q)
          cases xs with
          | nil =>
            obtain ⟨kk1, cc1⟩ := c1
            simp [okAs] at ha
          | cons x1 xr =>
            obtain ⟨kk1, cc1⟩ := c1
            obtain ⟨hk1, hk2⟩ := noStar_cons hs
            obtain ⟨g1, g2, g3⟩ := okAs_plain hk1 ha
            exact pe_imp (pe_callS F hr (k.gl hg) hm hk hb (fun σ => passAt tk σ) pa (nameB_1 hn) (starEach_plain g1) (any_plain cr xr hk2 g3)) rd
        · cases h1
      · cases h
  | callK f args kws order =>
    cases args with
    | cons _ _ => exact vacE fun _ => rfl
    | nil =>
      unfold okE at h
      split at h
      · rename_i x _ xs ks _
        simp only [Bool.and_eq_true] at h
        obtain ⟨⟨⟨⟨⟨⟨h1, h2⟩, hg⟩, hn⟩, hs⟩, ha⟩, hkw⟩ := h
        obtain ⟨ps, hf⟩ : ∃ ps, T.fns[f]? = some (x, ps) := by
          cases q : T.fns[f]? with
          | none => rw [q] at h1; simp at h1
          | some p =>
            obtain ⟨y, ps⟩ := p
            rw [q] at h1
            have : y = x := by simpa using h1
            subst this
            exact ⟨ps, rfl⟩
        obtain ⟨⟨kk, a, fd, F, hr, hm, hk, hb⟩, ho⟩ := kx.kw f x ps 0 (kwNames ks) order hf h2
        have pk := sKs kws sc top X k ks hkw
        obtain ⟨f1, f2, f3, f4⟩ := okKs_facts (env := X.env) (pos := ‹Pos›) kws ks hkw
        cases xs with
        | cons _ _ => simp [okAs] at ha
        | nil =>
          refine pe_imp (pe_callNS0 (E := WE W) F hr (k.gl hg) hm hk hb (fun σ => passAt tk σ) pk f1 f2 (nameB_1 hn) f3) fun σ H Q q => ?_
          obtain ⟨Z, pn, ρ, x, ρ', s, e, q⟩ := q
          obtain ⟨⟨vs, ρ1⟩, g1, e⟩ := Option.bind_eq_some_iff.mp (show ((evKs G C kws ρ).bind fun q => (pick q.1 order).bind fun vs => (xcall C f vs).map fun x => (x, q.2)) = some (x, ρ') from e)
          obtain ⟨us, g2, e⟩ := Option.bind_eq_some_iff.mp e
          obtain ⟨x', g3, e⟩ := Option.map_eq_some_iff.mp e
          cases e
          refine ⟨Z, pn, ρ, vs, ρ1, s, g1, fun zs H1 s1 e1 rk => ?_⟩
          obtain ⟨rp, _⟩ := pick_reps rk g2
          refine ⟨by rw [rk.length, f4]; exact evKs_len kws g1, ?_⟩
          have at2 : BwsAt X.K (Wof Z σ ρ1) σ H1 (us.map Bw.val) ((pick ([] ++ zs) order).getD []) := BwsAt.of_reps rp
          exact callX_in (by rw [pick_len g2, ho]) g3 s1 at2 (fun cls d H' s2 st ex => q σ H' cls d s2 (e1.trans st) ex) Q
      · cases h
  | _ => exact vacE fun _ => rfl
theorem sX1 (c : Ex) : SX T G C N c (ex1 G C c) := fun sc top X W k kx tk e h => by
  cases c with
  | ite t a b =>
    cases e with
    | IfExp y x z pos =>
      simp only [okE, Bool.and_eq_true] at h
      refine pe_imp (pe_ifExp ((sE t sc top X k y h.1.1.2).2 h.1.1.1) (sXC a sc top X W k kx tk x h.1.2) (sXC b sc top X W k kx tk z h.2)) fun σ H Q q => ?_
      obtain ⟨Z, pn, ρ, x, ρ', s, e, q⟩ := q
      obtain ⟨⟨b0, ρ1⟩, g1, e⟩ := Option.bind_eq_some_iff.mp (show ((tst (evE G C t ρ)).bind fun p => if p.1 then exC G C a p.2 else exC G C b p.2) = some (x, ρ') from e)
      refine ⟨Z, pn, ρ, b0, ρ1, s, g1, fun H1 s1 st => ?_⟩
      cases b0 with
      | true =>
        simp only [if_true] at e ⊢
        exact ⟨Z, pn, ρ1, x, ρ', s1, e, fun σ' H' cls d s' st' ex => q σ' H' cls d s' (st.trans st') ex⟩
      | false =>
        simp only [Bool.false_eq_true, if_false] at e ⊢
        exact ⟨Z, pn, ρ1, x, ρ', s1, e, fun σ' H' cls d s' st' ex => q σ' H' cls d s' (st.trans st') ex⟩
    | _ => simp [okE] at h
  | _ => exact sXC _ sc top X W k kx tk e h
theorem sXAs : ∀ (cs : List (AK × Ex)) (sc : Scope) (top : Bool) (X : Cx) (W : WX), XOk T G C N sc top X → XX T C X → Takes X W → ∀ es, okAs T N cs sc top es = true → PA X es (fun σ H _ => tXX X.K X.mg T W (exAs G C cs) σ H)
  | [], sc, top, X, W, k, kx, tk, es, h => vacA fun _ => rfl
  | (.ref, c) :: cs, sc, top, X, W, k, kx, tk, es, h => vacA fun _ => rfl
  | (.star, c) :: cs, sc, top, X, W, k, kx, tk, es, h => vacA fun _ => rfl
  | (.val, c) :: cs, sc, top, X, W, k, kx, tk, es, h => by
    cases es with
    | nil => simp [okAs] at h
    | cons x r =>
      have h : (!isStar x && okE T N c sc top x && okAs T N cs sc top r) = true := h
      obtain ⟨h, h3⟩ := and2 h
      obtain ⟨h1, h2⟩ := and2 h
      refine ⟨fun pos pins s σ H Q I hw => (pa_cons (pe_or (sE c sc top X k x h2).1 (sX1 c sc top X W k kx tk x h2)) (sXAs cs sc top X W k kx tk r h3) (starEach_plain (not_t h1))).run pos pins s σ H Q I ?_⟩
      obtain ⟨Z, pn, ρ, x, ρ', s, e, q⟩ := hw
      have e : (match ex1 G C c ρ with
        | some x => some x
        | none => (evE G C c ρ).bind fun p => exAs G C cs p.2) = some (x, ρ') := e
      cases hx : ex1 G C c ρ with
      | some y =>
        rw [hx] at e
        have e : some y = some (x, ρ') := e
        cases e
        exact .inr ⟨Z, pn, ρ, x, ρ', s, hx, q⟩
      | none =>
        rw [hx] at e
        obtain ⟨⟨r0, ρ1⟩, g1, e⟩ := Option.bind_eq_some_iff.mp (show ((evE G C c ρ).bind fun p => exAs G C cs p.2) = some (x, ρ') from e)
        exact .inl ⟨Z, pn, ρ, r0, ρ1, s, g1, fun v H1 p => ⟨Z, pn, ρ1, x, ρ', p.freeze.1, e, fun σ' H' cls d s' st ex => q σ' H' cls d s' (p.freeze.2.1.trans st) ex⟩⟩
theorem sX (c : Ex) : SX T G C N c (exE G C c) := fun sc top X W k kx tk e h => by
  cases c with
  | tup es =>
    cases e with
    | Tuple xs kk pos => exact pe_imp (pe_tup (sXAs es sc top X W k kx tk xs h)) fun σ H Q q => q
    | _ => simp [okE] at h
  | lst es =>
    cases e with
    | List xs pos => exact pe_imp (pe_lst (sXAs es sc top X W k kx tk xs h)) fun σ H Q q => q
    | _ => simp [okE] at h
  | _ => exact sX1 _ sc top X W k kx tk e h
end
end EV
set_option Elab.async false
set_option linter.all false
set_option maxRecDepth 100000
namespace EV
open PySem PySem.Spec PyProof.Rows L2
/-! ### raise -/
theorem lookup_nd {α : Type} : ∀ {l : List (Str × α)} {f : Str} {y : α}, (l.map (·.1)).Nodup → (f, y) ∈ l → l.lookup f = some y
  | [], f, y, _, h => by cases h
  | (g, z) :: l, f, y, nd, h => by
    rw [List.map_cons, List.nodup_cons] at nd
    rw [List.lookup_cons]
    rcases List.mem_cons.mp h with h | h
    · cases h
      simp
    · have : f ≠ g := fun e => nd.1 (by rw [← e]; exact List.mem_map.mpr ⟨(f, y), h, rfl⟩)
      have hb : (f == g) = false := by simpa using this
      rw [hb]
      exact lookup_nd nd.2 h
theorem zip_fst {α : Type} : ∀ {fs : List Str} {ws : List α}, ws.length = fs.length → (fs.zip ws).map (·.1) = fs
  | [], [], _ => rfl
  | [], _ :: _, h => by simp at h
  | _ :: _, [], h => by simp at h
  | f :: fs, w :: ws, h => by
    rw [List.zip_cons_cons, List.map_cons, zip_fst (by simpa using h)]
theorem zip_lookup {α : Type} {fs : List Str} {ws : List α} (nd : fs.Nodup) (hl : ws.length = fs.length) {i : Nat} {f : Str} (h : fs[i]? = some f) : ∃ y, ws[i]? = some y ∧ (fs.zip ws).reverse.lookup f = some y := by
  have hi : i < ws.length := by rw [hl]; exact (List.getElem?_eq_some_iff.mp h).1
  have hw : ws[i]? = some ws[i] := List.getElem?_eq_getElem hi
  refine ⟨ws[i], hw, lookup_nd ?_ ?_⟩
  · rw [List.map_reverse, zip_fst hl]
    exact (List.reverse_perm fs).nodup_iff.mpr nd
  · rw [List.mem_reverse]
    refine List.mem_iff_getElem?.mpr ⟨i, ?_⟩
    rw [List.getElem?_zip_eq_some]
    exact ⟨h, hw⟩
section
variable {T : Tab} {G : List PV} {C : Cl} {N : List Str} {sc : Scope} {top : Bool} {X : Cx}
set_option maxHeartbeats 4000000
theorem ps_raisX {W : WX} {j : Nat} {es : List (AK × Ex)} {s : Stmt} (k : XOk T G C N sc true X) (kx : XX T C X) (tk : Takes X W) (h : okS T N (.rais j es) sc s = true) : PS X s (fun D σ H => tXX X.K X.mg T W (exS G C (.rais j es)) σ H) := by
  unfold okS at h
  split at h
  · rename_i x p xs pos pos2
    obtain ⟨h, h6⟩ := and2 h
    obtain ⟨h, h5⟩ := and2 h
    obtain ⟨h, h4⟩ := and2 h
    obtain ⟨h, h3⟩ := and2 h
    obtain ⟨h1, h2⟩ := and2 h
    cases hI : T.excs[j]? with
    | none => rw [hI] at h1; cases h1
    | some I =>
      rw [hI] at h1
      obtain ⟨q1, q2⟩ := and2 h1
      have hx : I.name = x := by simpa using q1
      have hlen : I.fs.length = es.length := by simpa using q2
      subst hx
      have EA := kx.exc j I hI
      obtain ⟨Cc, fI, fd, ps, hm, ox, xf, hno, hex, iC, tI, F1, hb⟩ := EA.ex
      by_cases hroom : ∃ r, C XROOM [] = some r
      · have hr : Room (1 + 1) X.A := kx.room hroom
        cases xs with
        | nil => cases h5
        | cons x1 xr =>
          cases es with
          | nil => simp [okAs] at h6
          | cons c1 cr =>
            obtain ⟨kk1, cc1⟩ := c1
            obtain ⟨hk1, hk2⟩ := noStar_cons h4
            obtain ⟨g1, g2, g3⟩ := okAs_plain hk1 h6
            have pa := sAs ((kk1, cc1) :: cr) sc true X k (x1 :: xr) h6
            refine ps_imp' (ps_raise k.calm tk (pmk_oex ox iC tI F1 hr hb .nil pass0 (k.gl h2) hm pa (nameB_1 h3) (starEach_plain g1) (any_plain cr xr hk2 g3))) fun D σ H hh => ?_
            obtain ⟨Z, pn, ρ, xx, ρ', s, e, q⟩ := hh
            obtain ⟨_, _, e⟩ := Option.bind_eq_some_iff.mp (show ((C XROOM []).bind fun _ => (evAs G C ((kk1, cc1) :: cr) ρ).bind fun p => (vals? p.1).map fun vs => ((j, vs), p.2)) = some (xx, ρ') from e)
            obtain ⟨⟨bs, ρ1⟩, g1', e⟩ := Option.bind_eq_some_iff.mp e
            obtain ⟨us, g2', e⟩ := Option.map_eq_some_iff.mp e
            cases e
            have hbs : bs = us.map Bw.val := vals_eq g2'
            subst hbs
            refine ⟨Z, pn, ρ, us.map .val, ρ1, s, g1', fun ws H1 s1 st1 at1 => ?_⟩
            have hus : us.length = I.fs.length := by
              have := evAs_len (ρ := ρ) ((kk1, cc1) :: cr) h4 g1'
              rw [List.length_map] at this
              omega
            have hws : ws.length = I.fs.length := by
              have := at1.length
              rw [List.length_map] at this
              omega
            refine ⟨by have := EA.few; omega, fun a ha => ?_⟩
            rw [List.append_nil]
            refine ⟨a, Cc, ws, rfl, hws, upd_same, ox, hno, fun dx H2 hdx hne e1 e2 e3 => ⟨rfl, dx, (I.fs.zip ws).reverse, e1, e2, ?_, ?_⟩⟩
            · rw [← hdx, upd_ne hne]
            · have hd1 : H1 dx = none := by rw [← hdx, upd_ne hne]
              have grow : ∀ b o, H1 b = some o → (upd (del H2 a) dx (.xd (I.fs.zip ws).reverse)) b = some o := fun b o hbo => by
                have nb : b ≠ dx := fun z => by rw [z, hd1] at hbo; cases hbo
                have na : b ≠ a := fun z => by rw [z, ha] at hbo; cases hbo
                rw [upd_ne nb, del_ne na, e3 b na nb, upd_ne na]
                exact hbo
              have st2 : Stp Z (Wof Z σ ρ1) (Wof Z σ ρ1) H1 (upd (del H2 a) dx (.xd (I.fs.zip ws).reverse)) := Stp.grow grow s1.zt
              refine q σ _ (.ref Cc) (some dx) (s1.heap grow) (st1.trans st2) ⟨I, Cc, dx, _, hI, hm, rfl, rfl, upd_same, fun z => s1.wt dx z hd1, fun i f hf => ?_⟩
              obtain ⟨y, hy, hl⟩ := zip_lookup EA.nd hws hf
              have hi : i < us.length := by rw [hus]; exact (List.getElem?_eq_some_iff.mp hf).1
              have hu : us[i]? = some us[i] := List.getElem?_eq_getElem hi
              obtain ⟨y', hy', r⟩ := at1.get (i := i) (b := .val us[i]) (by rw [List.getElem?_map, hu]; rfl)
              rw [hy] at hy'
              cases hy'
              have r : Rep X.K (Wof Z σ ρ1) H1 us[i] y := r
              exact ⟨us[i], y, hu, hl, r.ext st2.ext⟩
      · exact ⟨fun pins s σ H D I hh => by
          obtain ⟨Z, pn, ρ, xx, ρ', s, e, q⟩ := hh
          obtain ⟨r, hr, _⟩ := Option.bind_eq_some_iff.mp (show ((C XROOM []).bind fun _ => (evAs G C es ρ).bind fun p => (vals? p.1).map fun vs => ((j, vs), p.2)) = some (xx, ρ') from e)
          exact absurd ⟨r, hr⟩ hroom⟩
  · cases h
/-! ### an except suite -/
def tHx (K : PySem.W.Frag) (mg : Str → Option Value) (T : Tab) (j : Nat) (a : Addr) (cls : Value) (d : Option Addr) (i : Nat) (g : List PV → Option PV) : TE := fun σ H Q => ∃ Z pn ρ x, SR K Z pn σ H ρ ∧ σ[i]? = some (some (.ref a)) ∧ ExR K mg T (Wof Z σ ρ) H x cls d ∧ x.1 = j ∧
  ∃ v, g x.2 = some v ∧ ∀ y H', SR K Z pn σ H' ρ → Stp Z (Wof Z σ ρ) (Wof Z σ ρ) H H' → Rep K (Wof Z σ ρ) H' v y → Q y H'
def tHxs (K : PySem.W.Frag) (mg : Str → Option Value) (T : Tab) (j : Nat) (a : Addr) (cls : Value) (d : Option Addr) (i : Nat) (g : List PV → Option (List PV)) : TA := fun σ H Q => ∃ Z pn ρ x, SR K Z pn σ H ρ ∧ σ[i]? = some (some (.ref a)) ∧ ExR K mg T (Wof Z σ ρ) H x cls d ∧ x.1 = j ∧
  ∃ vs, g x.2 = some vs ∧ ∀ ys H', SR K Z pn σ H' ρ → Stp Z (Wof Z σ ρ) (Wof Z σ ρ) H H' → Reps K (Wof Z σ ρ) H' vs ys → Q ys H'
variable {a : Addr} {oe : Obj} {cls : Value} {d : Option Addr} {pn : List (Addr × Obj)} {i j : Nat} {n : Str} {I : ExI}
mutual
theorem hx_ok (k : XOk T G C N sc true X) (kx : XX T C X) (hI : T.excs[j]? = some I) (hi : N[i]? = some n) (hv : visB sc n = true) (hn : nameB n = true) (hz : L2.Zc cls d oe) (hf : ∃ vs, oe.data = .fields vs) : ∀ (h : HEx) (e : Expr), okH sc n I.fs h e = true →
    PE (X.suite a ((a, oe) :: pn)) e (tHx X.K X.mg T j a cls d i (hxv h))
  | .lit v, e, h => by
    cases e with
    | Constant c kk pos =>
      refine pe_imp (pe_lit (X := X.suite a ((a, oe) :: pn)) h) fun σ H Q q => ?_
      obtain ⟨Z, pn, ρ, x, s, _, _, _, v', g, q⟩ := q
      cases g
      exact ⟨Z, pn, ρ, .fz v, ρ, s, rfl, fun y H' p => q y H' p.1 p.2.1 p.2.2⟩
    | _ => cases h
  | .fld m, e, h => by
    cases e with
    | Attribute b f pos =>
      cases b with
      | Name x px =>
        obtain ⟨h1, h2⟩ := and2 (show ((x == n) && (I.fs[m]? == some f)) = true from h)
        have e1 : x = n := by simpa using h1
        have e2 : I.fs[m]? = some f := by simpa using h2
        subst e1
        obtain ⟨Cc, fI, fd, ps, hm, ox, xf, hno, _⟩ := (kx.exc j I hI).ex
        have pv : PE (X.suite a ((a, oe) :: pn)) (.Name x px) (tVar i) := pe_var (by show X.N[i]? = _; rw [k.hN]; exact hi) (k.vis hv) (nameB_1 hn) (nameB_2 hn)
        refine pe_imp (pe_xf xf (hno f (List.mem_of_getElem? e2)) hz hf pv) fun σ H Q q => ?_
        obtain ⟨Z, pn, ρ, xx, s, hs, ex, hj, v', g, q⟩ := q
        obtain ⟨I', C', dd, fl, x1, x2, x3, x4, x5, x6, x7⟩ := ex
        rw [hj, hI] at x1
        cases x1
        rw [hm] at x2
        cases x2
        obtain ⟨v2, y, y1, y2, y3⟩ := x7 m f e2
        have g : xx.2[m]? = some v' := g
        rw [g] at y1
        cases y1
        exact ⟨.ref a, hs, rfl, x3, dd, fl, y, x4, x5, y2, q y H s Stp.refl y3⟩
      | _ => cases h
    | _ => cases h
  | .tup es, e, h => by
    cases e with
    | Tuple xs kk pos =>
      refine pe_imp (pe_tup (hxs_ok k kx hI hi hv hn hz hf es xs h)) fun σ H Q q => ?_
      obtain ⟨Z, pn, ρ, x, s, hs, ex, hj, v', g, q⟩ := q
      obtain ⟨us, g1, g⟩ := Option.bind_eq_some_iff.mp (show ((hxvs es x.2).bind fun us => if us.length ≤ LIM then some (PV.tup us) else none) = some v' from g)
      split at g
      · rename_i hl
        cases g
        refine ⟨Z, pn, ρ, x, s, hs, ex, hj, us, g1, fun ys H' s' st rs => ⟨by rw [rs.length, ← LIM_eq]; exact hl, fun p hp => ?_⟩⟩
        have P := PostE.tup s' rs hp
        exact q _ _ P.1 (st.trans P.2.1) P.2.2
      · cases g
    | _ => cases h
  | .sure _ _ _, e, h => by cases h
theorem hxs_ok (k : XOk T G C N sc true X) (kx : XX T C X) (hI : T.excs[j]? = some I) (hi : N[i]? = some n) (hv : visB sc n = true) (hn : nameB n = true) (hz : L2.Zc cls d oe) (hf : ∃ vs, oe.data = .fields vs) : ∀ (hs : List HEx) (es : List Expr), okHs sc n I.fs hs es = true →
    PA (X.suite a ((a, oe) :: pn)) es (tHxs X.K X.mg T j a cls d i (hxvs hs))
  | [], es, h => by
    cases es with
    | nil =>
      refine pa_imp pa_nil fun σ H Q q => ?_
      obtain ⟨Z, pn, ρ, x, s, hs, ex, hj, v', g, q⟩ := q
      cases g
      exact q [] H s Stp.refl rfl
    | cons _ _ => cases h
  | c :: cs, es, h => by
    cases es with
    | nil => cases h
    | cons x r =>
      obtain ⟨h, h3⟩ := and2 (show (!isStar x && okH sc n I.fs c x && okHs sc n I.fs cs r) = true from h)
      obtain ⟨h1, h2⟩ := and2 h
      refine pa_imp (pa_cons (hx_ok k kx hI hi hv hn hz hf c x h2) (hxs_ok k kx hI hi hv hn hz hf cs r h3) (starEach_plain (not_t h1))) fun σ H Q q => ?_
      obtain ⟨Z, pn, ρ, xx, s, hs, ex, hj, v', g, q⟩ := q
      obtain ⟨u, g1, g⟩ := Option.bind_eq_some_iff.mp (show ((hxv c xx.2).bind fun u => (hxvs cs xx.2).map (u :: ·)) = some v' from g)
      obtain ⟨us, g2, g⟩ := Option.map_eq_some_iff.mp g
      cases g
      exact ⟨Z, pn, ρ, xx, s, hs, ex, hj, u, g1, fun y H1 s1 st1 r1 => ⟨Z, pn, ρ, xx, s1, hs, ex.ext st1.ext, hj, us, g2, fun ys H2 s2 st2 rs => q (y :: ys) H2 s2 (st1.trans st2) ⟨y, ys, rfl, r1.ext st2.ext, rs⟩⟩⟩
end
end
end EV
set_option Elab.async false
set_option linter.all false
set_option maxRecDepth 100000
namespace EV
open PySem PySem.Spec PyProof.Rows L2
section
variable {T : Tab} {G : List PV} {C : Cl} {N : List Str} {sc : Scope} {X : Cx}
theorem ps_imp {st : Stmt} {t t' : TS} (h : PS X st t) (q : ∀ D σ H, t' D σ H → t D σ H) : PS X st t' := ⟨fun pins s σ H D I hw => h.run pins s σ H D I (q D σ H hw)⟩
theorem pss_imp {st : List Stmt} {t t' : TS} (h : PSs X st t) (q : ∀ D σ H, t' D σ H → t D σ H) : PSs X st t' := ⟨fun pins s σ H D I hw => h.run pins s σ H D I (q D σ H hw)⟩
theorem noswap {v : Expr} {tg : Option Expr} {l : Nat} {env : PySem.Env} (h : isCompAny v = false) : swapsWith v tg l env = pure false := by
  cases v <;> first | rfl | (exfalso; simp [isCompAny] at h)
theorem noswapT {v : Expr} {ts : List Expr} {k : Nat} {p : Pos} {l : Nat} {env : PySem.Env} : swapsWithSole [.Tuple ts k p] v l env = pure false := by
  cases v <;> rfl
theorem noswapS {v o i : Expr} {p : Pos} {l : Nat} {env : PySem.Env} : swapsWithSole [.Subscript o i p] v l env = pure false := by
  cases v <;> rfl
theorem noStoresN {v : Expr} {x : Str} {p : Pos} {env : PySem.Env} : swappedStores [.Name x p] v env = pure none := by
  cases v <;> rfl
theorem noStoresS {v o i : Expr} {p : Pos} {env : PySem.Env} : swappedStores [.Subscript o i p] v env = pure none := by
  cases v <;> rfl
theorem noStoresT {v : Expr} {ts : List Expr} {k : Nat} {p : Pos} {env : PySem.Env} (hsc : env.scope = sc) (h : noSw sc ts v = true) : swappedStores [.Tuple ts k p] v env = pure none := by
  cases v with
  | Tuple vs k2 p2 =>
    have h : (!(ts.length == 2 || ts.length == 3) || vs.length != ts.length || vs.all (foldedForSure 8) || (ts.filterMap fun
    | .Name id pos => if sc.names.lookup id == some .local && pos.line == (ts.head?.map (·.pos.line)).getD 0 then some id else none
    | _ => none).length != ts.length) = true := h
    subst hsc
    show (do
      if (!(ts.length == 2 || ts.length == 3) || vs.length != ts.length || env.blockKind != .function) = true then return none
      if (vs.any fun | .Starred .. => true | _ => false) = true then return none
      let line := (ts.head?.map (·.pos.line)).getD 0
      let names := ts.filterMap fun
        | .Name id pos => if env.kindOf id == some .local && pos.line == line then some id else none
        | _ => none
      if (names.length != ts.length || names.eraseDups.length != names.length) = true then return none
      if vs.all (foldedForSure 8) = true then return none
      if vs.all (constantsAlone 8) = true then unsupported "assign.tuple-of-constant-expressions:order-of-the-stores"
      return some names : Sem (Option (List Str))) = pure none
    split
    · rfl
    · rename_i h1
      split
      · rfl
      · have h' : vs.all (foldedForSure 8) = true ∨ ((ts.filterMap fun
            | .Name id pos => if env.kindOf id == some .local && pos.line == (ts.head?.map (·.pos.line)).getD 0 then some id else none
            | _ => none).length != ts.length) = true := by
          rcases Bool.or_eq_true_iff.mp h with h | h
          · rcases Bool.or_eq_true_iff.mp h with h | h
            · exfalso
              apply h1
              rw [h]
              rfl
            · exact .inl h
          · exact .inr h
        rcases h' with h2 | h2
        · dsimp only
          split
          · rfl
          · first | rfl | (rw [if_pos h2]; rfl)
        · refine (if_pos ?_).trans rfl
          exact Bool.or_eq_true_iff.mpr (.inl h2)
  | _ => rfl
theorem storesT {ts vs : List Expr} {k k2 : Nat} {p p2 : Pos} {env : PySem.Env} {xs : List Str} (hsc : env.scope = sc) (h : swB sc ts vs = true)
    (hn : (ts.filterMap fun
        | .Name id pos => if sc.names.lookup id == some .local && pos.line == (ts.head?.map (·.pos.line)).getD 0 then some id else none
        | _ => none) = xs) : swappedStores [.Tuple ts k p] (.Tuple vs k2 p2) env = pure (some xs) := by
  obtain ⟨h, h5⟩ := and2 h
  obtain ⟨h, h4⟩ := and2 h
  obtain ⟨h, h3⟩ := and2 h
  obtain ⟨h1, h2⟩ := and2 h
  have h1 := not_t h1
  have h2 := not_t h2
  have h3 := not_t h3
  have h4 := not_t h4
  have h5 := not_t h5
  show (do
      if (!(ts.length == 2 || ts.length == 3) || vs.length != ts.length || env.blockKind != .function) = true then return none
      if (vs.any fun | .Starred .. => true | _ => false) = true then return none
      let line := (ts.head?.map (·.pos.line)).getD 0
      let names := ts.filterMap fun
        | .Name id pos => if env.kindOf id == some .local && pos.line == line then some id else none
        | _ => none
      if (names.length != ts.length || names.eraseDups.length != names.length) = true then return none
      if vs.all (foldedForSure 8) = true then return none
      if vs.all (constantsAlone 8) = true then unsupported "assign.tuple-of-constant-expressions:order-of-the-stores"
      return some names : Sem (Option (List Str))) = pure (some xs)
  have hk : (env.blockKind != .function) = !fnKind sc := by unfold Env.blockKind fnKind; rw [hsc]; rfl
  rw [hk, h1]
  rw [if_neg (by decide)]
  refine (if_neg (fun z => ?_)).trans ?_
  · exact absurd (h2.symm.trans z) (by decide)
  subst hsc
  have e3 : ((ts.filterMap fun
        | .Name id pos => if env.kindOf id == some .local && pos.line == (ts.head?.map (·.pos.line)).getD 0 then some id else none
        | _ => none).length != ts.length || (ts.filterMap fun
        | .Name id pos => if env.kindOf id == some .local && pos.line == (ts.head?.map (·.pos.line)).getD 0 then some id else none
        | _ => none).eraseDups.length != (ts.filterMap fun
        | .Name id pos => if env.kindOf id == some .local && pos.line == (ts.head?.map (·.pos.line)).getD 0 then some id else none
        | _ => none).length) = false := h3
  show (if _ then _ else _) = _
  rw [e3, if_neg (by decide), h4, if_neg (by decide), h5, if_neg (by decide)]
  show pure (some _) = _
  rw [← hn]
  rfl
theorem swC_ok {x : Str} {p : Pos} {elt : Expr} {gens : List Comprehension} {scope : Scope} {pos : Pos} {l : Nat} {env : PySem.Env} (hsc : env.scope = sc) (h : swC sc x p (.ListComp elt gens scope pos) = true) : swapsWith (.ListComp elt gens scope pos) (some (.Name x p)) l env = pure true := by
  have h : (fnKind sc && (sc.names.lookup x == some .local) && (p.line == pos.line) && !(scope.names.any fun (n, k) => n == x && (k == .local || k == .cell))) = true := h
  show pure (env.blockKind == .function && env.kindOf x == some .local && p.line == pos.line && !(scope.names.any fun (n, k) => n == x && (k == .local || k == .cell))) = pure true
  have hk : (env.blockKind == .function) = fnKind sc := by unfold Env.blockKind fnKind; rw [hsc]
  have hl : env.kindOf x = sc.names.lookup x := by unfold Env.kindOf; rw [hsc]
  rw [hk, hl, h]
/-- what is shown of a statement -/
def SS (T : Tab) (G : List PV) (C : Cl) (N : List Str) (c : Sm) : Prop := ∀ (sc : Scope) (X : Cx), XOk T G C N sc true X → XX T C X → PassesOwn (model X.prog X.w) X.A X.env X.xe → ∀ s, okS T N c sc s = true → PS X s (tS X.K (evS G C c))
def SSs (T : Tab) (G : List PV) (C : Cl) (N : List Str) (cs : List Sm) : Prop := ∀ (sc : Scope) (X : Cx), XOk T G C N sc true X → XX T C X → PassesOwn (model X.prog X.w) X.A X.env X.xe → ∀ ss, okSs T N cs sc ss = true → PSs X ss (tS X.K (evSs G C cs))
theorem par_name {line : Nat} {i : Nat} {is : List Nat} {ts : List Expr} (h : parNames N sc line (i :: is) ts = true) : ∃ x p r, ts = .Name x p :: r ∧ N[i]? = some x ∧ sc.names.lookup x = some .local ∧ ((sc.names.lookup x == some .local) && p.line == line) = true ∧ parNames N sc line is r = true := by
  unfold parNames at h
  split at h
  · rename_i x p r
    obtain ⟨h, h3⟩ := and2 h
    obtain ⟨h1, h2⟩ := and2 h
    exact ⟨x, p, r, rfl, by simpa using h1, by simpa using (and2 h2).1, h2, h3⟩
  · cases h
theorem par_nil {line : Nat} {ts : List Expr} (h : parNames N sc line [] ts = true) : ts = [] := by
  cases ts with
  | nil => rfl
  | cons _ _ => simp [parNames] at h
theorem plainAll {v : Expr} {vs : List Expr} (h : (v :: vs).any isStar = false) : isStar v = false ∧ vs.any isStar = false := by
  rw [List.any_cons, Bool.or_eq_false_iff] at h
  exact h
theorem okL_cons {c : Ex} {cs : List Ex} {top : Bool} {vs : List Expr} (h : okL T N (c :: cs) sc top vs = true) : ∃ x r, vs = x :: r ∧ okE T N c sc top x = true ∧ okL T N cs sc top r = true := by
  unfold okL at h
  split at h
  · rename_i x r
    obtain ⟨h, h3⟩ := and2 h
    obtain ⟨h1, h2⟩ := and2 h
    exact ⟨x, r, rfl, h2, h3⟩
  · cases h
theorem okL_nil {top : Bool} {vs : List Expr} (h : okL T N [] sc top vs = true) : vs = [] := by
  cases vs with
  | nil => rfl
  | cons _ _ => simp [okL] at h
theorem par_sound {is : List Nat} {es : List Ex} {ts vs : List Expr} {k k2 : Nat} {p p2 pos : Pos} (kk : XOk T G C N sc true X) (h1 : parNames N sc (line0 ts) is ts = true) (h2 : okL T N es sc true vs = true) (h3 : swB sc ts vs = true) (h4 : vs.any isStar = false) (h5 : is.Nodup)
    (h6 : (is.length == 2 || is.length == 3) = true) : PS X (.Assign [.Tuple ts k p] (.Tuple vs k2 p2) pos) (tS X.K fun ρ => (evPar G C is es ρ).map fun ρ' => (.nx, ρ')) := by
  have hN : X.N.Nodup := by rw [kk.hN]; exact kk.hnd
  match is, h1, h5, h6 with
  | [], _, _, h6 => simp at h6
  | [_], _, _, h6 => simp at h6
  | _ :: _ :: _ :: _ :: _, _, _, h6 => simp at h6
  | [i, j], h1, h5, _ =>
    obtain ⟨x, px, r, rfl, n1, l1, c1, h1⟩ := par_name h1
    obtain ⟨y, py, r, rfl, n2, l2, c2, h1⟩ := par_name h1
    obtain rfl := par_nil h1
    have hsw := h3
    have hv : vs.length = 2 := by
      have := (and2 (and2 (and2 (and2 h3).1).1).1).1
      simp at this
      exact this.1
    match es, h2 with
    | [], h2 => rw [okL_nil h2] at hv; simp at hv
    | [a], h2 => obtain ⟨_, _, rfl, _, h2⟩ := okL_cons h2; rw [okL_nil h2] at hv; simp at hv
    | a :: b :: es, h2 =>
      obtain ⟨v, r, rfl, o1, h2⟩ := okL_cons h2
      obtain ⟨w, r, rfl, o2, h2⟩ := okL_cons h2
      have hr : r = [] := by cases r with
        | nil => rfl
        | cons _ _ => simp at hv
      subst hr
      have he : es = [] := by cases es with
        | nil => rfl
        | cons _ _ => obtain ⟨_, _, q, _⟩ := okL_cons h2; cases q
      subst he
      obtain ⟨q1, h4⟩ := plainAll h4
      obtain ⟨q2, _⟩ := plainAll h4
      have hij : i ≠ j := by
        intro e; subst e; simp at h5
      have pa := pa_cons (sE a sc true X kk v o1).1 (pa_cons (sE b sc true X kk w o2).1 pa_nil (starEach_plain q2)) (starEach_plain q1)
      refine ps_imp (ps_par kk.calm hN (by rw [kk.hN]; exact n1) (by rw [kk.hN]; exact n2) hij (by rw [kk.hsc]; exact l1) (by rw [kk.hsc]; exact l2) pa (storesT kk.hsc hsw ?_) noswapT) (par2_rd hij)
      refine Eq.trans (List.filterMap_cons_some (b := x) ?_) ?_
      · exact if_pos c1
      refine congrArg (x :: ·) (Eq.trans (List.filterMap_cons_some (b := y) ?_) ?_)
      · exact if_pos c2
      rfl
  | [i, j, l], h1, h5, _ =>
    obtain ⟨x, px, r, rfl, n1, l1, c1, h1⟩ := par_name h1
    obtain ⟨y, py, r, rfl, n2, l2, c2, h1⟩ := par_name h1
    obtain ⟨z, pz, r, rfl, n3, l3, c3, h1⟩ := par_name h1
    obtain rfl := par_nil h1
    have hsw := h3
    have hv : vs.length = 3 := by
      have := (and2 (and2 (and2 (and2 h3).1).1).1).1
      simp at this
      exact this.1
    match es, h2 with
    | [], h2 => rw [okL_nil h2] at hv; simp at hv
    | [a], h2 => obtain ⟨_, _, rfl, _, h2⟩ := okL_cons h2; rw [okL_nil h2] at hv; simp at hv
    | [a, b], h2 => obtain ⟨_, _, rfl, _, h2⟩ := okL_cons h2; obtain ⟨_, _, rfl, _, h2⟩ := okL_cons h2; rw [okL_nil h2] at hv; simp at hv
    | a :: b :: c :: es, h2 =>
      obtain ⟨v, r, rfl, o1, h2⟩ := okL_cons h2
      obtain ⟨w, r, rfl, o2, h2⟩ := okL_cons h2
      obtain ⟨u, r, rfl, o3, h2⟩ := okL_cons h2
      have hr : r = [] := by cases r with
        | nil => rfl
        | cons _ _ => simp at hv
      subst hr
      have he : es = [] := by cases es with
        | nil => rfl
        | cons _ _ => obtain ⟨_, _, q, _⟩ := okL_cons h2; cases q
      subst he
      obtain ⟨q1, h4⟩ := plainAll h4
      obtain ⟨q2, h4⟩ := plainAll h4
      obtain ⟨q3, _⟩ := plainAll h4
      have hij : i ≠ j := by
        intro e; subst e; simp at h5
      have hil : i ≠ l := by
        intro e; subst e; simp at h5
      have hjl : j ≠ l := by
        intro e; subst e; simp at h5
      have pa := pa_cons (sE a sc true X kk v o1).1 (pa_cons (sE b sc true X kk w o2).1 (pa_cons (sE c sc true X kk u o3).1 pa_nil (starEach_plain q3)) (starEach_plain q2)) (starEach_plain q1)
      refine ps_imp (ps_par3 kk.calm hN (by rw [kk.hN]; exact n1) (by rw [kk.hN]; exact n2) (by rw [kk.hN]; exact n3) hij hil hjl (by rw [kk.hsc]; exact l1) (by rw [kk.hsc]; exact l2) (by rw [kk.hsc]; exact l3) pa (storesT kk.hsc hsw ?_) noswapT) (par3_rd hij hil hjl)
      refine Eq.trans (List.filterMap_cons_some (b := x) ?_) ?_
      · exact if_pos c1
      refine congrArg (x :: ·) (Eq.trans (List.filterMap_cons_some (b := y) ?_) ?_)
      · exact if_pos c2
      refine congrArg (y :: ·) (Eq.trans (List.filterMap_cons_some (b := z) ?_) ?_)
      · exact if_pos c3
      rfl
theorem loc_name {i : Nat} {is : List Nat} {ts : List Expr} (h : locNames N sc (i :: is) ts = true) : ∃ x p r, ts = .Name x p :: r ∧ N[i]? = some x ∧ locB true sc x = true ∧ locNames N sc is r = true := by
  unfold locNames at h
  split at h
  · rename_i x p r
    obtain ⟨h, h3⟩ := and2 h
    obtain ⟨h1, h2⟩ := and2 h
    exact ⟨x, p, r, rfl, by simpa using h1, h2, h3⟩
  · cases h
theorem loc_nil {ts : List Expr} (h : locNames N sc [] ts = true) : ts = [] := by
  cases ts with
  | nil => rfl
  | cons _ _ => simp [locNames] at h
theorem parT_sound {is : List Nat} {es : List Ex} {ts vs : List Expr} {k k2 : Nat} {p p2 pos : Pos} (kk : XOk T G C N sc true X) (h1 : locNames N sc is ts = true) (h2 : okL T N es sc true vs = true) (h3 : noSw sc ts (.Tuple vs k2 p2) = true) (h4 : vs.any isStar = false) (h5 : is.Nodup)
    (h6 : (is.length == 2 || is.length == 3) = true) (h7 : is.length = es.length) : PS X (.Assign [.Tuple ts k p] (.Tuple vs k2 p2) pos) (tS X.K fun ρ => (evPar G C is es ρ).map fun ρ' => (.nx, ρ')) := by
  have hN : X.N.Nodup := by rw [kk.hN]; exact kk.hnd
  match is, h1, h5, h6, h7 with
  | [], _, _, h6, _ => simp at h6
  | [_], _, _, h6, _ => simp at h6
  | _ :: _ :: _ :: _ :: _, _, _, h6, _ => simp at h6
  | [i, j], h1, h5, _, h7 =>
    obtain ⟨x, px, r, rfl, n1, l1, h1⟩ := loc_name h1
    obtain ⟨y, py, r, rfl, n2, l2, h1⟩ := loc_name h1
    obtain rfl := loc_nil h1
    match es, h2, h7 with
    | [], _, h7 => simp at h7
    | [_], _, h7 => simp at h7
    | _ :: _ :: _ :: _, _, h7 => simp at h7
    | [a, b], h2, _ =>
      obtain ⟨v, r, rfl, o1, h2⟩ := okL_cons h2
      obtain ⟨w, r, rfl, o2, h2⟩ := okL_cons h2
      obtain rfl := okL_nil h2
      obtain ⟨q1, h4⟩ := plainAll h4
      obtain ⟨q2, _⟩ := plainAll h4
      have hij : i ≠ j := by
        intro e; subst e; simp at h5
      obtain ⟨m1, f1⟩ := kk.loc l1
      obtain ⟨m2, f2⟩ := kk.loc l2
      have pa := pa_cons (sE a sc true X kk v o1).1 (pa_cons (sE b sc true X kk w o2).1 pa_nil (starEach_plain q2)) (starEach_plain q1)
      exact ps_imp (ps_asg (pe_tup pa) (pg_tup (n := 2) kk.calm (pgs_cons (pg_name hN (by rw [kk.hN]; exact n1) m1 f1) (pgs_cons (pg_name hN (by rw [kk.hN]; exact n2) m2 f2) pgs_nil rfl) rfl) rfl rfl) noswapT (noStoresT kk.hsc h3) rfl) (par2T_rd hij)
  | [i, j, l], h1, h5, _, h7 =>
    obtain ⟨x, px, r, rfl, n1, l1, h1⟩ := loc_name h1
    obtain ⟨y, py, r, rfl, n2, l2, h1⟩ := loc_name h1
    obtain ⟨z, pz, r, rfl, n3, l3, h1⟩ := loc_name h1
    obtain rfl := loc_nil h1
    match es, h2, h7 with
    | [], _, h7 => simp at h7
    | [_], _, h7 => simp at h7
    | [_, _], _, h7 => simp at h7
    | _ :: _ :: _ :: _ :: _, _, h7 => simp at h7
    | [a, b, c], h2, _ =>
      obtain ⟨v, r, rfl, o1, h2⟩ := okL_cons h2
      obtain ⟨w, r, rfl, o2, h2⟩ := okL_cons h2
      obtain ⟨u, r, rfl, o3, h2⟩ := okL_cons h2
      obtain rfl := okL_nil h2
      obtain ⟨q1, h4⟩ := plainAll h4
      obtain ⟨q2, h4⟩ := plainAll h4
      obtain ⟨q3, _⟩ := plainAll h4
      have hij : i ≠ j := by
        intro e; subst e; simp at h5
      have hil : i ≠ l := by
        intro e; subst e; simp at h5
      have hjl : j ≠ l := by
        intro e; subst e; simp at h5
      obtain ⟨m1, f1⟩ := kk.loc l1
      obtain ⟨m2, f2⟩ := kk.loc l2
      obtain ⟨m3, f3⟩ := kk.loc l3
      have pa := pa_cons (sE a sc true X kk v o1).1 (pa_cons (sE b sc true X kk w o2).1 (pa_cons (sE c sc true X kk u o3).1 pa_nil (starEach_plain q3)) (starEach_plain q2)) (starEach_plain q1)
      exact ps_imp (ps_asg (pe_tup pa) (pg_tup (n := 3) kk.calm (pgs_cons (pg_name hN (by rw [kk.hN]; exact n1) m1 f1) (pgs_cons (pg_name hN (by rw [kk.hN]; exact n2) m2 f2) (pgs_cons (pg_name hN (by rw [kk.hN]; exact n3) m3 f3) pgs_nil rfl) rfl) rfl) rfl rfl) noswapT (noStoresT kk.hsc h3) rfl) (par3T_rd hij hil hjl)
theorem okP_name {i : Nat} {x : Str} {px : Pos} (h : okP N sc true (.name i) (.Name x px) = true) : N[i]? = some x ∧ locB true sc x = true := by
  simp only [okP, Bool.and_eq_true] at h
  exact ⟨by simpa using h.1, h.2⟩
theorem comp_sound {i : Nat} {e : Ex} {x : Str} {px pos : Pos} {v : Expr} (k : XOk T G C N sc true X) (hp : N[i]? = some x) (h : okE T N e sc true v = true) (hs : swC sc x px v = true) (hv : isCompAny v = true) :
    PS X (.Assign [.Name x px] v pos) (tS X.K fun ρ => (evE G C e ρ).bind fun q => (put i q.1 q.2).map fun ρ' => (.nx, ρ')) := by
  cases e with
  | comp elt own pt it tests =>
    unfold okE at h
    split at h
    · rename_i y tg iter ifs a scope cpos
      simp only [Bool.and_eq_true, Bool.not_eq_true'] at h
      obtain ⟨⟨⟨⟨⟨⟨⟨h1, h2⟩, h3⟩, h4⟩, h5⟩, h6⟩, h7⟩, h8⟩ := h
      have e1 : a = 0 := by simpa using h1
      subst e1
      have hown : (ownL N own).map (·.2) = own := by unfold ownL; rw [List.map_map]; exact List.map_id own
      have ok : BlkOk X.N X.env.scope scope (ownL N own) := by rw [k.hN, k.hsc]; exact blkOk_by h2
      have hl : X.env.scope.names.lookup x = some .local := by
        have hs : (fnKind sc && (sc.names.lookup x == some .local) && (px.line == cpos.line) && !(scope.names.any fun (n, k) => n == x && (k == .local || k == .cell))) = true := hs
        rw [k.hsc]
        simpa using (and2 (and2 (and2 hs).1).1).2
      have ps := ps_setLc (pos := cpos) (spos := pos) (te := tR X.K (evE G C elt)) (tt := tT X.K (evTs G C tests)) (g := tG X.K pt) k.calm (by rw [k.hN]; exact k.hnd) (by rw [k.hN]; exact hp) hl (swC_ok k.hsc hs) (sI it sc true X k tg iter h6) ok
        (fun s H D cl fp => pg_any (k.blk s H scope D cl fp) pt tg h4) (fun s H D cl fp => sTs tests _ _ (k.blk s H scope D cl fp) ifs h7)
        (fun s H D cl fp => (sE elt _ _ _ (k.blk s H scope D cl fp) y h8).1) (nofold h5 X.env)
      rw [hown] at ps
      refine ps_imp ps fun D σ H q => lc_rd (fun j hj => ?_) _ _ _ (asgN_rd D σ H q)
      have := List.all_eq_true.mp h3 j hj
      simpa using this
    · cases h
  | isi a tys =>
    cases v <;> first | (exfalso; simp [isCompAny] at hv; done) | (exfalso; simp [okE] at h)
  | _ => cases v <;> first | (exfalso; simp [isCompAny] at hv; done) | (exfalso; simp [okE] at h)
def XS (T : Tab) (G : List PV) (C : Cl) (N : List Str) (c : Sm) : Prop := ∀ (sc : Scope) (X : Cx) (W : WX), XOk T G C N sc true X → XX T C X → Takes X W → PassesOwn (model X.prog X.w) X.A X.env X.xe → ∀ s, okS T N c sc s = true → PS X s (fun D σ H => tXX X.K X.mg T W (exS G C c) σ H)
def XSs (T : Tab) (G : List PV) (C : Cl) (N : List Str) (cs : List Sm) : Prop := ∀ (sc : Scope) (X : Cx) (W : WX), XOk T G C N sc true X → XX T C X → Takes X W → PassesOwn (model X.prog X.w) X.A X.env X.xe → ∀ ss, okSs T N cs sc ss = true → PSs X ss (fun D σ H => tXX X.K X.mg T W (exSs G C cs) σ H)
theorem vacS {s : Stmt} {g : Env → Option (Fl × Env)} (h : ∀ ρ, g ρ = none) : PS X s (tS X.K g) := ⟨fun pins s σ H D I hw => by
  obtain ⟨_, _, ρ, _, _, _, e, _⟩ := hw
  rw [h ρ] at e
  cases e⟩
theorem vacX {s : Stmt} {W : WX} {g : Env → Option (Exn × Env)} (h : ∀ ρ, g ρ = none) : PS X s (fun D σ H => tXX X.K X.mg T W g σ H) := ⟨fun pins s σ H D I hw => by
  obtain ⟨_, _, ρ, _, _, _, e, _⟩ := hw
  rw [h ρ] at e
  cases e⟩
theorem comp_none {e : Ex} {v : Expr} (h : okE T N e sc true v = true) (hv : isCompAny v = true) (ρ : Env) : exE G C e ρ = none := by
  cases e with
  | comp elt own pt it tests => rfl
  | isi a tys =>
    cases v <;> first | (exfalso; simp [isCompAny] at hv; done) | (exfalso; simp [okE] at h)
  | _ => cases v <;> first | (exfalso; simp [isCompAny] at hv; done) | (exfalso; simp [okE] at h)
set_option maxHeartbeats 4000000
mutual
theorem sS : ∀ c : Sm, SS T G C N c
  | .asg (.name i) e => fun sc X k kx hp s h => by
    cases s with
    | Assign tgs v pos =>
      match tgs, h with
      | [], h => simp [okS] at h
      | _ :: _ :: _, h => simp [okS] at h
      | [tg], h =>
        cases tg with
        | Name x px =>
          have h : (okP N sc true (.name i) (.Name x px) && okE T N e sc true v && (!isCompAny v || swC sc x px v)) = true := h
          obtain ⟨h, h3⟩ := and2 h
          obtain ⟨h1, h2⟩ := and2 h
          obtain ⟨n1, l1⟩ := okP_name h1
          cases hc : isCompAny v with
          | true =>
            rw [hc] at h3
            exact comp_sound k n1 h2 h3 hc
          | false =>
            obtain ⟨l, f⟩ := k.loc l1
            exact ps_imp (ps_set (by rw [k.hN]; exact k.hnd) (by rw [k.hN]; exact n1) l (sE e sc true X k v h2).1 (noswap hc) f) asgN_rd
        | _ => simp [okS] at h
    | _ => simp [okS] at h
  | .asg (.tup ps) e => fun sc X k kx hp s h => by
    cases s with
    | Assign tgs v pos =>
      match tgs, h with
      | [], h => simp [okS] at h
      | _ :: _ :: _, h => simp [okS] at h
      | [tg], h =>
        cases tg with
        | Tuple ts kk p =>
          have h : (okP N sc true (.tup ps) (.Tuple ts kk p) && okE T N e sc true v && noSw sc ts v) = true := h
          obtain ⟨h, h3⟩ := and2 h
          obtain ⟨h1, h2⟩ := and2 h
          exact ps_imp (ps_asg (sE e sc true X k v h2).1 (pg_any k (.tup ps) _ h1) noswapT (noStoresT k.hsc h3) rfl) asgP_rd
        | _ => simp [okS] at h
    | _ => simp [okS] at h
  | .par is es => fun sc X k kx hp s h => by
    unfold okS at h
    split at h
    · rename_i ts _ _ vs _ _ _
      obtain ⟨h, h6⟩ := and2 h
      obtain ⟨h, h5⟩ := and2 h
      obtain ⟨h, h4⟩ := and2 h
      obtain ⟨h2, h3⟩ := and2 h
      rcases Bool.or_eq_true_iff.mp h3 with h3 | h3
      · obtain ⟨h1, h3⟩ := and2 h3
        exact par_sound k h1 h2 h3 (not_t h4) (by simpa using h5) h6
      · obtain ⟨h3, h8⟩ := and2 h3
        obtain ⟨h1, h7⟩ := and2 h3
        exact parT_sound k h1 h2 h8 (not_t h4) (by simpa using h5) h6 (by simpa using h7)
    · cases h
  | .setIdx i e v => fun sc X k kx hp s h => by
    unfold okS at h
    split at h
    · rename_i x _ y _ w _
      obtain ⟨h, h6⟩ := and2 h
      obtain ⟨h, h5⟩ := and2 h
      obtain ⟨h, h4⟩ := and2 h
      obtain ⟨h, h3⟩ := and2 h
      obtain ⟨h1, h2⟩ := and2 h
      exact ps_imp (ps_asg (sE v sc true X k w h6).1 (pg_sub (pe_varT k h1 h2 h3) (sE e sc true X k y h5).1 set_list (by
        have h4 := not_t h4
        intro u
        cases y <;> first | rfl | (exfalso; simp [isSlice] at h4))) noswapS noStoresS rfl) set_rd
    · cases h
  | .app i e => fun sc X k kx hp s h => by
    unfold okS at h
    split at h
    · rename_i x _ m ap y cp _
      obtain ⟨h, h7⟩ := and2 h
      obtain ⟨h, h6⟩ := and2 h
      obtain ⟨h, h5⟩ := and2 h
      obtain ⟨h, h4⟩ := and2 h
      obtain ⟨h, h3⟩ := and2 h
      obtain ⟨h1, h2⟩ := and2 h
      have e1 : m = ("append" : Str) := by simpa using h4
      subst e1
      have hst := starEach_plain (es := []) (env := X.env) (not_t h6)
      refine ps_imp (ps_expr (pe_bm PySem.F.plainAttrs_list PySem.F.slot_list_append PySem.F.type_list_append mt_append (pe_varT k h1 h2 h3) (pa_cons (sE e sc true X k y h7).1 pa_nil hst) rfl ?_ h5 hst rfl)) app_rd
      rw [hst]; rfl
    · cases h
  | .star i ps e => fun sc X k kx hp s h => by
    unfold okS at h
    split at h
    · rename_i x px p1 ts kk p v _
      obtain ⟨h, h4⟩ := and2 h
      obtain ⟨h, h3⟩ := and2 h
      obtain ⟨h1, h2⟩ := and2 h
      obtain ⟨n1, l1⟩ := okP_name h1
      obtain ⟨l, f⟩ := k.loc l1
      obtain ⟨q1, _, _⟩ := okPs_len ps ts X.env h2
      exact ps_imp (ps_asg (sE e sc true X k v h3).1 (pg_star k.calm (by rw [k.hN]; exact k.hnd) (by rw [k.hN]; exact n1) l f (pgs_any k ps ts h2) q1) noswapT (noStoresT k.hsc h4) rfl) star_rd
    · cases h
  | .expr e => fun sc X k kx hp s h => by
    cases s with
    | Expr v pos =>
      obtain ⟨h1, h2⟩ := and2 (show (!isCompAny v && okE T N e sc true v) = true from h)
      exact ps_imp (ps_expr (sE e sc true X k v h2).1 (noswap (not_t h1))) drop_rd
    | _ => simp [okS] at h
  | .ret e => fun sc X k kx hp s h => by
    cases s with
    | Return v pos =>
      cases v with
      | none => simp [okS] at h
      | some v => exact ps_imp (ps_ret (sE e sc true X k v h).1) ret_rd
    | _ => simp [okS] at h
  | .retN => fun sc X k kx hp s h => by
    cases s with
    | Return v pos =>
      cases v with
      | none => exact ps_imp ps_retN retN_rd
      | some v => simp [okS] at h
    | _ => simp [okS] at h
  | .ite c a b => fun sc X k kx hp s h => by
    cases s with
    | If t x y pos =>
      have h : (testable t && okE T N c sc true t && okSs T N a sc x && okSs T N b sc y) = true := h
      obtain ⟨h, h4⟩ := and2 h
      obtain ⟨h, h3⟩ := and2 h
      obtain ⟨h1, h2⟩ := and2 h
      exact ps_imp (ps_if ((sE c sc true X k t h2).2 h1) (sSs a sc X k kx hp x h3) (sSs b sc X k kx hp y h4)) if_rd
    | _ => simp [okS] at h
  | .for_ p it body => fun sc X k kx hp s h => by
    unfold okS at h
    split at h
    · rename_i tg iter x _
      obtain ⟨h, h4⟩ := and2 h
      obtain ⟨h, h3⟩ := and2 h
      obtain ⟨h1, h2⟩ := and2 h
      exact ps_imp (ps_for hp k.calm (sI it sc true X k tg iter h3) (pg_any k p tg h1) (sSs body sc X k kx hp x h4) (nofold (not_t h2) X.env)) for_rd
    · cases h
  | .while_ c body => fun sc X k kx hp s h => by
    unfold okS at h
    split at h
    · rename_i t x _
      obtain ⟨h, h3⟩ := and2 h
      obtain ⟨h1, h2⟩ := and2 h
      exact ps_imp (ps_while hp ((sE c sc true X k t h2).2 h1) (sSs body sc X k kx hp x h3)) while_rd
    · cases h
  | .brk => fun sc X k kx hp s h => by
    cases s with
    | Break pos => exact ps_imp ps_break brk_rd
    | _ => simp [okS] at h
  | .cont => fun sc X k kx hp s h => by
    cases s with
    | Continue pos => exact ps_imp ps_continue cont_rd
    | _ => simp [okS] at h
  | .pass => fun sc X k kx hp s h => by
    cases s with
    | Pass pos => exact ps_imp ps_pass next_rd
    | _ => simp [okS] at h
  | .never => fun sc X k kx hp s h => ps_imp ps_never fun D σ H q => by
    obtain ⟨_, _, _, _, _, _, e, _⟩ := q
    cases e
  | .rais j es => fun sc X k kx hp s h => vacS fun _ => rfl
  | .tryE body j i kk hx => fun sc X k kx hp s h => by
    unfold okS at h
    split at h
    · rename_i bd x px n y py v apos hpos tpos
      obtain ⟨h, h10⟩ := and2 h
      obtain ⟨h, h9⟩ := and2 h
      obtain ⟨h, h8⟩ := and2 h
      obtain ⟨h, h7⟩ := and2 h
      obtain ⟨h, h6⟩ := and2 h
      obtain ⟨h, h5⟩ := and2 h
      obtain ⟨h, h4⟩ := and2 h
      obtain ⟨h, h3⟩ := and2 h
      obtain ⟨h1, h2⟩ := and2 h
      cases hI : T.excs[j]? with
      | none => rw [hI] at h1; cases h1
      | some I =>
        rw [hI] at h1
        obtain ⟨q1, q2⟩ := and2 h1
        have hxn : I.name = x := by simpa using q1
        subst hxn
        obtain ⟨Cc, fI, fd, ps, hm, ox, xf, hno, hex, _⟩ := (kx.exc j I hI).ex
        obtain ⟨n1, l1⟩ := okP_name h8
        obtain ⟨l, f⟩ := k.loc l1
        have hi : N[i]? = some n := by simpa using h6
        have hln : X.env.scope.names.lookup n = some .local := by rw [k.hsc]; simpa using h7
        refine ps_imp (ps_try_as (Wout := fun _ _ _ _ => False) (c := .ref Cc) (i := i) (tb := fun W D σ H => tS X.K (evSs G C body) D σ H ∨ tXX X.K X.mg T W (exSs G C body) σ H)
          (ts := fun a cls d => tSeq (tAsg (tHx X.K X.mg T j a cls d i (hxv hx)) (gName kk)) tNext) kx.hs kx.hf (by rw [k.hN]; exact k.hnd) (by rw [k.hN]; exact hi) hln ⟨k.gl h2, nameB_1 h3, .inl hm⟩
          (fun u s' ⟨a, B, sI, pins, σ, H, cls, d, e, I, nb, up, sky, na, os, ag, w⟩ => w.elim)
          (fun W pn xe tkW hpo => pss_or (sSs body sc (X.tr pn xe) (k.tr pn xe) (kx.tr pn xe) hpo bd h10) (xSs body sc (X.tr pn xe) W (k.tr pn xe) (kx.tr pn xe) tkW hpo bd h10))
          (fun a oe cls d pn hz hf => pss_cons (ps_set (X := X.suite a ((a, oe) :: pn)) (by show X.N.Nodup; rw [k.hN]; exact k.hnd) (by show X.N[kk]? = _; rw [k.hN]; exact n1) l (hx_ok k kx hI hi h5 h4 hz hf hx v q2) (noswap (not_t h9)) f) pss_nil)) fun D σ H hh => ?_
        obtain ⟨Z, pn, ρ, fl, ρ', s, e, q⟩ := hh
        have e : (match evSs G C body ρ with
          | some r => some r
          | none => (exSs G C body ρ).bind fun q => if q.1.1 = j ∧ i < q.2.length then (hxv hx q.1.2).bind fun v => (put kk (.fz v) (q.2.set i .un)).map fun ρ' => (Fl.nx, ρ'.set i .un) else none) = some (fl, ρ') := e
        cases hn : evSs G C body ρ with
        | some r =>
          rw [hn] at e
          have e : some r = some (fl, ρ') := e
          cases e
          exact .inl ⟨Z, pn, ρ, fl, ρ', s, hn, q⟩
        | none =>
          rw [hn] at e
          obtain ⟨⟨xx, ρ1⟩, g1, e⟩ := Option.bind_eq_some_iff.mp (show ((exSs G C body ρ).bind fun q => if q.1.1 = j ∧ i < q.2.length then (hxv hx q.1.2).bind fun v => (put kk (.fz v) (q.2.set i .un)).map fun ρ' => (Fl.nx, ρ'.set i .un) else none) = some (fl, ρ') from e)
          have e : (if xx.1 = j ∧ i < ρ1.length then (hxv hx xx.2).bind fun v => (put kk (.fz v) (ρ1.set i .un)).map fun ρ' => (Fl.nx, ρ'.set i .un) else none) = some (fl, ρ') := e
          split at e
          · rename_i hji
            obtain ⟨hj, hil⟩ := hji
            obtain ⟨v', g2, e⟩ := Option.bind_eq_some_iff.mp e
            obtain ⟨ρ2, g3, e⟩ := Option.map_eq_some_iff.mp e
            cases e
            refine .inr ⟨Z, pn, ρ, xx, ρ1, s, g1, fun σ' H' cls d s' st ex => ⟨true, ?_, fun _ a ha => ?_, fun z => nomatch z⟩⟩
            · obtain ⟨I', C', dd, fl', x1, x2, x3, _⟩ := ex
              rw [hj, hI] at x1
              cases x1
              rw [hm] at x2
              cases x2
              rw [x3]
              exact hex
            · obtain ⟨s1, w1⟩ := s'.setUn (i := i) (y := some (V.ref a))
              refine ⟨Z, pn, ρ1.set i .un, xx, s1, List.getElem?_set_self (by rw [s'.len]; exact hil), ex.ext (Ext.less w1), hj, v', g2, fun y H1 s2 st2 r => ?_⟩
              obtain ⟨s3, st3⟩ := PostE.put (r := .fz v') ⟨s2, st2, r⟩ g3
              obtain ⟨s4, w4⟩ := s3.setUn (i := i) (y := none)
              exact q _ _ s4 (st.trans ((Stp.less w1).trans (st3.trans (Stp.less w4))))
          · cases e
    · cases h
theorem sSs : ∀ cs : List Sm, SSs T G C N cs
  | [] => fun sc X k kx hp ss h => by
    cases ss with
    | nil => exact pss_imp pss_nil next_rd
    | cons _ _ => simp [okSs] at h
  | c :: cs => fun sc X k kx hp ss h => by
    cases ss with
    | nil => simp [okSs] at h
    | cons s r =>
      obtain ⟨h1, h2⟩ := and2 (show (okS T N c sc s && okSs T N cs sc r) = true from h)
      exact pss_imp (pss_cons (sS c sc X k kx hp s h1) (sSs cs sc X k kx hp r h2)) (seq_rd (g := evS G C c) (gs := evSs G C cs))
theorem xS : ∀ c : Sm, XS T G C N c
  | .asg (.name i) e => fun sc X W k kx tk hp s h => by
    cases s with
    | Assign tgs v pos =>
      match tgs, h with
      | [], h => simp [okS] at h
      | _ :: _ :: _, h => simp [okS] at h
      | [tg], h =>
        cases tg with
        | Name x px =>
          have h : (okP N sc true (.name i) (.Name x px) && okE T N e sc true v && (!isCompAny v || swC sc x px v)) = true := h
          obtain ⟨h, h3⟩ := and2 h
          obtain ⟨h1, h2⟩ := and2 h
          obtain ⟨n1, l1⟩ := okP_name h1
          cases hc : isCompAny v with
          | true => exact vacX (comp_none h2 hc)
          | false =>
            obtain ⟨l, f⟩ := k.loc l1
            exact ps_imp (ps_set (by rw [k.hN]; exact k.hnd) (by rw [k.hN]; exact n1) l (sX e sc true X W k kx tk v h2) (noswap hc) f) fun D σ H q => q
        | _ => simp [okS] at h
    | _ => simp [okS] at h
  | .asg (.tup ps) e => fun sc X W k kx tk hp s h => by
    cases s with
    | Assign tgs v pos =>
      match tgs, h with
      | [], h => simp [okS] at h
      | _ :: _ :: _, h => simp [okS] at h
      | [tg], h =>
        cases tg with
        | Tuple ts kk p =>
          have h : (okP N sc true (.tup ps) (.Tuple ts kk p) && okE T N e sc true v && noSw sc ts v) = true := h
          obtain ⟨h, h3⟩ := and2 h
          obtain ⟨h1, h2⟩ := and2 h
          exact ps_imp (ps_asg (sX e sc true X W k kx tk v h2) (pg_any k (.tup ps) _ h1) noswapT (noStoresT k.hsc h3) rfl) fun D σ H q => q
        | _ => simp [okS] at h
    | _ => simp [okS] at h
  | .expr e => fun sc X W k kx tk hp s h => by
    cases s with
    | Expr v pos =>
      obtain ⟨h1, h2⟩ := and2 (show (!isCompAny v && okE T N e sc true v) = true from h)
      exact ps_imp (ps_expr (sX e sc true X W k kx tk v h2) (noswap (not_t h1))) fun D σ H q => q
    | _ => simp [okS] at h
  | .ret e => fun sc X W k kx tk hp s h => by
    cases s with
    | Return v pos =>
      cases v with
      | none => simp [okS] at h
      | some v => exact ps_imp (ps_ret (sX e sc true X W k kx tk v h)) fun D σ H q => q
    | _ => simp [okS] at h
  | .ite c a b => fun sc X W k kx tk hp s h => by
    cases s with
    | If t x y pos =>
      have h : (testable t && okE T N c sc true t && okSs T N a sc x && okSs T N b sc y) = true := h
      obtain ⟨h, h4⟩ := and2 h
      obtain ⟨h, h3⟩ := and2 h
      obtain ⟨h1, h2⟩ := and2 h
      refine ps_imp (ps_if ((sE c sc true X k t h2).2 h1) (xSs a sc X W k kx tk hp x h3) (xSs b sc X W k kx tk hp y h4)) fun D σ H q => ?_
      obtain ⟨Z, pn, ρ, x, ρ', s, e, q⟩ := q
      obtain ⟨⟨b0, ρ1⟩, g1, e⟩ := Option.bind_eq_some_iff.mp (show ((tst (evE G C c ρ)).bind fun p => if p.1 then exSs G C a p.2 else exSs G C b p.2) = some (x, ρ') from e)
      refine ⟨Z, pn, ρ, b0, ρ1, s, g1, fun H1 s1 st => ?_⟩
      cases b0 with
      | true =>
        simp only [if_true] at e ⊢
        exact ⟨Z, pn, ρ1, x, ρ', s1, e, fun σ' H' cls d s' st' ex => q σ' H' cls d s' (st.trans st') ex⟩
      | false =>
        simp only [Bool.false_eq_true, if_false] at e ⊢
        exact ⟨Z, pn, ρ1, x, ρ', s1, e, fun σ' H' cls d s' st' ex => q σ' H' cls d s' (st.trans st') ex⟩
    | _ => simp [okS] at h
  | .rais j es => fun sc X W k kx tk hp s h => ps_raisX k kx tk h
  | .par _ _ => fun sc X W k kx tk hp s h => vacX fun _ => rfl
  | .setIdx _ _ _ => fun sc X W k kx tk hp s h => vacX fun _ => rfl
  | .app _ _ => fun sc X W k kx tk hp s h => vacX fun _ => rfl
  | .star _ _ _ => fun sc X W k kx tk hp s h => vacX fun _ => rfl
  | .retN => fun sc X W k kx tk hp s h => vacX fun _ => rfl
  | .for_ _ _ _ => fun sc X W k kx tk hp s h => vacX fun _ => rfl
  | .while_ _ _ => fun sc X W k kx tk hp s h => vacX fun _ => rfl
  | .brk => fun sc X W k kx tk hp s h => vacX fun _ => rfl
  | .cont => fun sc X W k kx tk hp s h => vacX fun _ => rfl
  | .pass => fun sc X W k kx tk hp s h => vacX fun _ => rfl
  | .never => fun sc X W k kx tk hp s h => vacX fun _ => rfl
  | .tryE _ _ _ _ _ => fun sc X W k kx tk hp s h => vacX fun _ => rfl
theorem xSs : ∀ cs : List Sm, XSs T G C N cs
  | [] => fun sc X W k kx tk hp ss h => ⟨fun pins s σ H D I hw => by
      obtain ⟨_, _, _, _, _, _, e, _⟩ := hw
      cases e⟩
  | c :: cs => fun sc X W k kx tk hp ss h => by
    cases ss with
    | nil => simp [okSs] at h
    | cons s r =>
      obtain ⟨h1, h2⟩ := and2 (show (okS T N c sc s && okSs T N cs sc r) = true from h)
      refine pss_imp (pss_cons (ps_or (sS c sc X k kx hp s h1) (xS c sc X W k kx tk hp s h1)) (xSs cs sc X W k kx tk hp r h2)) fun D σ H hh => ?_
      obtain ⟨Z, pn, ρ, x, ρ', s, e, q⟩ := hh
      have e : (match exS G C c ρ with
        | some x => some x
        | none => (evS G C c ρ).bind fun p => match p.1 with
          | .nx => exSs G C cs p.2
          | _ => none) = some (x, ρ') := e
      cases hx : exS G C c ρ with
      | some z =>
        rw [hx] at e
        have e : some z = some (x, ρ') := e
        cases e
        exact .inr ⟨Z, pn, ρ, x, ρ', s, hx, q⟩
      | none =>
        rw [hx] at e
        obtain ⟨⟨f1, ρ1⟩, g1, e⟩ := Option.bind_eq_some_iff.mp (show ((evS G C c ρ).bind fun p => match p.1 with
          | .nx => exSs G C cs p.2
          | _ => none) = some (x, ρ') from e)
        cases f1 with
        | nx => exact .inl ⟨Z, pn, ρ, .nx, ρ1, s, g1, fun σ1 H1 s1 st1 => ⟨Z, pn, ρ1, x, ρ', s1, e, fun σ' H' cls d s' st' ex => q σ' H' cls d s' (st1.trans st') ex⟩⟩
        | br => cases e
        | ct => cases e
        | rt _ => cases e
end
end
end EV
set_option Elab.async false
set_option linter.all false
set_option maxRecDepth 100000
namespace EV
open PySem PySem.Spec PyProof.Rows L2
section
variable {K : PySem.W.Frag} {Z : AS} {H : Hp} {args : List (Bool × PV)} {vs : List V} {m : Nat} {N : List Str}
theorem startE_at {i : Nat} {sl : Slot} (h : (startE m args)[i]? = some sl) (hs : sl ≠ .un) : ∃ p, args[i]? = some p ∧ slotOf p = sl := by
  unfold startE at h
  by_cases hi : i < args.length
  · rw [List.getElem?_append_left (by simpa using hi), List.getElem?_map] at h
    obtain ⟨p, e1, e2⟩ := Option.map_eq_some_iff.mp h
    exact ⟨p, e1, e2⟩
  · rw [List.getElem?_append_right (by simpa using hi), List.getElem?_replicate] at h
    split at h
    · cases h; exact absurd rfl hs
    · cases h
theorem startE_arg {i : Nat} {p : Bool × PV} (h : args[i]? = some p) : (startE m args)[i]? = some (slotOf p) := by
  unfold startE
  rw [List.getElem?_append_left (by simpa using lt_of_get h), List.getElem?_map, h]
  rfl
theorem start_at {i : Nat} {x : V} (h : vs[i]? = some x) : (L2.start N vs)[i]? = some (some x) := by
  unfold L2.start
  rw [List.getElem?_append_left (by simpa using lt_of_get h), List.getElem?_map, h]
  rfl
theorem slot_ow {p : Bool × PV} {v : PV} (h : slotOf p = .ow v) : False := by
  unfold slotOf at h
  split at h <;> cases h
theorem slot_pn {p : Bool × PV} {v : PV} (h : slotOf p = .pn v) : p = (true, v) := by
  obtain ⟨b, u⟩ := p
  cases b with
  | true => cases h; rfl
  | false => cases h
theorem slot_fz {p : Bool × PV} {v : PV} (h : slotOf p = .fz v) : p = (false, v) := by
  obtain ⟨b, u⟩ := p
  cases b with
  | true => cases h
  | false => cases h; rfl
theorem start_ow {i : Nat} {v : PV} (h : IsOw (startE m args) i v) : args[i]? = some (true, v) := by
  rcases h with h | h
  · obtain ⟨p, e1, e2⟩ := startE_at h (fun z => nomatch z)
    exact (slot_ow e2).elim
  · obtain ⟨p, e1, e2⟩ := startE_at h (fun z => nomatch z)
    rw [e1, slot_pn e2]
theorem ow_start {i : Nat} {v : PV} (h : args[i]? = some (true, v)) : IsOw (startE m args) i v := .inr (startE_arg h)
theorem start_some {i : Nat} {x : V} (h : (L2.start N vs)[i]? = some (some x)) : vs[i]? = some x := by
  unfold L2.start at h
  by_cases hi : i < vs.length
  · rw [List.getElem?_append_left (by simpa using hi), List.getElem?_map] at h
    obtain ⟨p, e1, e2⟩ := Option.map_eq_some_iff.mp h
    cases e2
    exact e1
  · rw [List.getElem?_append_right (by simpa using hi), List.getElem?_replicate] at h
    split at h <;> cases h
theorem wof_start : ∀ b, Wof Z (L2.start N vs) (startE m args) b ↔ W0 Z args vs b := fun b => by
  constructor
  · rintro (h | ⟨i, v, h1, h2⟩)
    · exact .inl h
    · exact .inr ⟨i, v, start_ow h1, start_some h2⟩
  · rintro (h | ⟨i, v, h1, h2⟩)
    · exact .inl h
    · exact .inr ⟨i, v, ow_start h1, start_at h2⟩
def pnOf (vs : List V) (i : Nat) : Option Addr := match vs[i]? with
  | some (.ref a) => some a
  | _ => none
theorem sr_start (at0 : ArgsAt K Z H args vs) (hm : args.length ≤ m) (hN : N.length = m) : SR K Z (pnOf vs) (L2.start N vs) H (startE m args) := by
  have wi := wof_start (Z := Z) (N := N) (vs := vs) (m := m) (args := args)
  refine ⟨?_, at0.zt, fun i v e => ?_, fun i v e => ?_, fun i j a v w e e' h1 h2 => ?_, fun i v a e h1 => ?_⟩
  · unfold L2.start startE
    rw [List.length_append, List.length_append, List.length_map, List.length_map, List.length_replicate, List.length_replicate, at0.len, hN]
  · obtain ⟨p, e1, e2⟩ := startE_at e (fun z => nomatch z)
    rw [slot_fz e2] at e1
    obtain ⟨x, ex, r⟩ := at0.fz i v e1
    exact ⟨x, start_at ex, r.iff wi⟩
  · obtain ⟨a, ea, nz, o⟩ := at0.rf i v (start_ow e)
    exact ⟨a, start_at ea, nz, o.iff wi⟩
  · exact at0.one i j v w (start_ow e) (start_ow e')
  · have := start_some h1
    unfold pnOf
    rw [this]
theorem finE_at : ∀ {args : List (Bool × PV)} {ρ : Env} {fin : List PV} {i : Nat} {v : PV}, finE args ρ = some fin → args[i]? = some (true, v) → ∃ u, ρ[i]? = some (.pn u) ∧ u ∈ fin
  | [], _, _, _, _, _, h => by simp at h
  | p :: ps, [], _, _, _, e, _ => by cases e
  | (b, w) :: ps, s :: ρ, fin, 0, v, e, h => by
    have h : (b, w) = (true, v) := Option.some.inj h
    cases h
    cases s with
    | pn u =>
      obtain ⟨f, e1, e2⟩ := Option.map_eq_some_iff.mp (show (finE ps ρ).map (u :: ·) = some fin from e)
      subst e2
      exact ⟨u, rfl, List.mem_cons_self⟩
    | _ => cases e
  | (b, w) :: ps, s :: ρ, fin, i + 1, v, e, h => by
    have h : ps[i]? = some (true, v) := h
    cases b with
    | true =>
      cases s with
      | pn u =>
        obtain ⟨f, e1, e2⟩ := Option.map_eq_some_iff.mp (show (finE ps ρ).map (u :: ·) = some fin from e)
        subst e2
        obtain ⟨u, h1, h2⟩ := finE_at (i := i) e1 h
        exact ⟨u, h1, List.mem_cons_of_mem _ h2⟩
      | _ => cases e
    | false => exact finE_at (i := i) (show finE ps ρ = some fin from e) h
theorem finE_len : ∀ {args : List (Bool × PV)} {ρ : Env} {fin : List PV}, finE args ρ = some fin → fin.length = (args.filter (·.1)).length
  | [], _, _, e => by cases e; rfl
  | p :: ps, [], _, e => by cases e
  | (b, w) :: ps, s :: ρ, fin, e => by
    cases b with
    | true =>
      cases s with
      | pn u =>
        obtain ⟨f, e1, e2⟩ := Option.map_eq_some_iff.mp (show (finE ps ρ).map (u :: ·) = some fin from e)
        subst e2
        rw [List.filter_cons_of_pos rfl, List.length_cons, List.length_cons, finE_len e1]
      | _ => cases e
    | false =>
      rw [List.filter_cons_of_neg (show ¬ (false = true) by decide)]
      exact finE_len (show finE ps ρ = some fin from e)
theorem filter_one : ∀ {args : List (Bool × PV)}, (∀ (i j : Nat) (v w : PV), args[i]? = some (true, v) → args[j]? = some (true, w) → i = j) → (args.filter (·.1)).length ≤ 1
  | [], _ => Nat.zero_le _
  | p :: ps, h => by
    have ih := filter_one (args := ps) fun i j v w e e' => by
      have := h (i + 1) (j + 1) v w e e'
      omega
    by_cases hp : p.1 = true
    · rw [List.filter_cons_of_pos hp, List.length_cons]
      have : ps.filter (·.1) = [] := by
        apply List.filter_eq_nil_iff.mpr
        intro q hq hq1
        obtain ⟨j, hj⟩ := List.mem_iff_getElem?.mp hq
        obtain ⟨b, u⟩ := q
        obtain ⟨b', u'⟩ := p
        have hp : b' = true := hp
        have hq1 : b = true := hq1
        subst hp hq1
        have := h 0 (j + 1) u' u rfl hj
        omega
      rw [this]
      exact Nat.le_refl _
    · rw [List.filter_cons_of_neg hp]
      exact ih
theorem left_of {Zn : AS} {σ' : L2.St} {ρ' : Env} {H' : Hp} {fin : List PV} (at0 : ArgsAt K Z H args vs) (s : SR K Zn (pnOf vs) σ' H' ρ') (e : finE args ρ' = some fin) : Left K (Wof Zn σ' ρ') args vs fin H' := fun i v a h1 h2 => by
  obtain ⟨u, hu, hm⟩ := finE_at e h1
  obtain ⟨b, eb, _, o⟩ := s.ow i u (.inr hu)
  have hp := s.pins i u b hu eb
  unfold pnOf at hp
  rw [h2] at hp
  cases hp
  have hl : fin.length ≤ 1 := by rw [finE_len e]; exact filter_one at0.one
  refine ⟨u, ?_, o⟩
  cases fin with
  | nil => cases hm
  | cons f r =>
    cases r with
    | nil => rw [show u = f by simpa using hm]
    | cons _ _ => simp at hl
theorem w0_sub {Zn : AS} {σ' : L2.St} {ρ' : Env} {H' : Hp} {fin : List PV} (hz : ∀ b, Z b → Zn b) (at0 : ArgsAt K Z H args vs) (s : SR K Zn (pnOf vs) σ' H' ρ') (e : finE args ρ' = some fin) : ∀ b, W0 Z args vs b → Wof Zn σ' ρ' b := fun b h => by
  rcases h with h | ⟨i, v, h1, h2⟩
  · exact .inl (hz b h)
  · obtain ⟨u, hu, hm⟩ := finE_at e h1
    obtain ⟨c, ec, _, o⟩ := s.ow i u (.inr hu)
    have hp := s.pins i u c hu ec
    unfold pnOf at hp
    rw [h2] at hp
    cases hp
    exact .inr ⟨i, u, .inr hu, ec⟩
theorem Left.less {W W' : AS} {fin : List PV} {H' : Hp} (h : ∀ b, W' b → W b) (l : Left K W args vs fin H') : Left K W' args vs fin H' := fun i v a h1 h2 => by
  obtain ⟨u, e, o⟩ := l i v a h1 h2
  exact ⟨u, e, o.ext (Ext.less h) rfl⟩
/-- a def's end -/
theorem ret_of {r : RV} {σ' : L2.St} {ρ' : Env} {H' : Hp} {fin : List PV} {x : V} (at0 : ArgsAt K Z H args vs) (e : finE args ρ' = some fin) (p : PostS K Z (pnOf vs) (L2.start N vs) H (startE m args) r σ' ρ' x H') : RetAt K Z H args vs r fin x H' := by
  have wi := wof_start (Z := Z) (N := N) (vs := vs) (m := m) (args := args)
  cases r with
  | fz v =>
    obtain ⟨s, st, rp⟩ := p
    have sub := w0_sub (fun b h => h) at0 s e
    exact ⟨⟨(Ext.less fun b h => (wi b).mp h).trans (st.ext.trans (Ext.less sub)), st.zk⟩, rp.ext (Ext.less sub), (left_of at0 s e).less sub⟩
  | fr v =>
    obtain ⟨a, rfl, s, st, na, o⟩ := p
    have sub : ∀ b, W0 Z args vs b → Wof (plus Z a) σ' ρ' b := w0_sub (fun b h => .inl h) at0 s e
    have subp : ∀ b, plus (W0 Z args vs) a b → Wof (plus Z a) σ' ρ' b := fun b h => by
      rcases h with h | h
      · exact sub b h
      · exact .inl (.inr h)
    have na0 : ¬ W0 Z args vs a := fun h => by
      rcases h with h | ⟨i, v', h1, h2⟩
      · exact na (.inl h)
      · obtain ⟨u, hu, hm⟩ := finE_at e h1
        obtain ⟨c, ec, nz, o'⟩ := s.ow i u (.inr hu)
        have hp := s.pins i u c hu ec
        unfold pnOf at hp
        rw [h2] at hp
        cases hp
        exact nz (.inr rfl)
    exact ⟨a, rfl, ⟨(Ext.less fun b h => (wi b).mp h).trans (st.ext.trans (Ext.less subp)), st.zk⟩, na0, o.ext (Ext.less subp) rfl, (left_of at0 s e).less subp⟩
end
/-! ### the defs of a module -/
/-- one def: its number, its slots' names -/
structure DefI where
  name : Str
  ps : List Str
  N : List Str
  fd : FD
  st : Stmt
def DefI.ok (T : Tab) (d : DefI) : Bool := (d.fd.m == d.N.length) && decide (d.ps.length ≤ d.N.length) && okSs T d.N d.fd.body (defScope d.st) (defBody d.st)
/-- a def as it stands behind the top -/
structure DefOk (K : PySem.W.Frag) (mg : Str → Option Value) (T : Tab) (F : List FD) (f : Nat) (x : Str) (ps : List Str) (a : Addr) (fd : FuncData) (d : DefI) : Prop where
  mg_ : mg x = some (.ref a)
  fun_ : FunD K x x (defArgs d.st) (defBody d.st) (defScope d.st) [] [] a fd
  binds : Binds K fd ps []
  code : F[f]? = some d.fd
  ok : d.ok T = true
  sc : FnScope d.N ps (defScope d.st)
  kw : ∀ (n : Nat) (ks : List Str) (order : List Nat), T.kws.contains (f, n, ks, order) = true → KBn K fd ps n ks (fun us ws => (pick (us ++ ws) order).getD []) (fun vs zs => (pick (vs ++ zs) order).getD []) ∧ order.length = ps.length
/-- the module as a walk sees it -/
structure Sys (P : Program) (w : World) (K : PySem.W.Frag) (mg : Str → Option Value) (base : Heap) (T : Tab) (G : List PV) (F : List FD) : Prop where
  def_ : ∀ (f : Nat) (x : Str) (ps : List Str), T.fns[f]? = some (x, ps) → ∃ (a : Addr) (fd : FuncData) (d : DefI), DefOk K mg T F f x ps a fd d
  glo : ∀ (n : Nat) (x : Str) (v : PV), T.glo[n]? = some x → G[n]? = some v → ∃ (u : Value) (y : V), mg x = some u ∧ RelV y u ∧ ∀ W H, Rep K W H v y
  bl : ∀ x : String, x ∈ ["len", "int", "tuple", "list", "all", "any", "min", "max", "sum", "abs", "bool", "str", "dict", "isinstance", "range", "enumerate", "zip"] → mg (Str.ofString x) = none
  tab : ∀ (n : Nat) (x : Str) (kvs : List (Str × Str)), T.tabs[n]? = some (x, kvs) → ∃ a : Addr, mg x = some (.ref a) ∧ ∀ z u, kvs.lookup z = some u → KDct K w a z (.str u)
  exc : ∀ (j : Nat) (I : ExI), T.excs[j]? = some I → ExcAt P w K mg base I
  small : F.length ≤ XOFF
section
variable {P : Program} {w : World} {K : PySem.W.Frag} {mg : Str → Option Value} {base : Heap} {T : Tab} {G : List PV} {F : List FD}
theorem spEV_len {C : Cl} {f n : Nat} {vs : List V} {H : Hp} {Q : VK} {E : XK} (h : spEV K C f n vs H Q E) : vs.length = n := by
  obtain ⟨Z, args, r, fin, hl, _, at0, _⟩ := h
  rw [← at0.len]
  exact hl
theorem spEX_len {C : Cl} {f n : Nat} {vs : List V} {H : Hp} {Q : VK} {E : XK} (h : spEX K mg T C f n vs H Q E) : vs.length = n := by
  obtain ⟨Z, us, x, hl, _, at0, _⟩ := h
  rw [← at0.len, List.length_map]
  exact hl
theorem pn_none {us : List PV} {m : Nat} : ∀ (i : Nat) (v : PV), (startE m (us.map fun v => (false, v)))[i]? ≠ some (.pn v) := fun i v h => by
  obtain ⟨p, e1, e2⟩ := startE_at h (fun z => nomatch z)
  rw [slot_pn e2] at e1
  exact all_false e1
/-- every def does what the evaluator says, calls nested at most k deep -/
theorem Sys.run2 (S : Sys P w K mg base T G F) : ∀ (k f : Nat) (x : Str) (ps : List Str) (a : Addr) (fd : FuncData) (d : DefI), DefOk K mg T F f x ps a fd d →
    FnOk P w K mg base CX0 k a fd ps (spEV K (evCl G F k) f ps.length) ∧ FnOk P w K mg base (L2.CX P w) k a fd ps (spEX K mg T (evCl G F k) f ps.length) := by
  intro k
  induction k with
  | zero =>
    intro f x ps a fd d ok
    refine ⟨⟨fun vs H Q E h => spEV_len h, fun A outer s H args us vs Q E _ _ _ _ h => ?_⟩, ⟨fun vs H Q E h => spEX_len h, fun A outer s H args us vs Q E _ _ _ _ h => ?_⟩⟩
    · obtain ⟨_, _, _, _, _, e, _⟩ := h
      cases e
    · obtain ⟨_, _, _, _, e, _⟩ := h
      cases e
  | succ k ih =>
    intro f x ps a fd d ok
    obtain ⟨hm, FF, hb, hF, hd, hS, hk⟩ := ok
    obtain ⟨h1, h4⟩ := and2 hd
    obtain ⟨h2, h3⟩ := and2 h1
    have hlt : f < XOFF := Nat.lt_of_lt_of_le (lt_of_get hF) S.small
    have hmN : d.N.length = d.fd.m := by
      have := eq_of_beq h2
      exact this.symm
    have mkK : ∀ (X : Cx), X.prog = P → X.w = w → X.K = K → X.mg = mg → X.base = base → X.N = d.N → X.env.scope = defScope d.st → X.calm = true → (∀ x, X.fn x = true) → Room k X.A → XOk T G (evCl G F k) d.N (defScope d.st) true X := fun X e1 e2 e3 e4 e5 e6 e7 e8 e9 hr => by
      subst e1; subst e2; subst e3; subst e4; subst e5
      refine ⟨e6, hS.nd, e7, fun _ => e9, e8, hr.units, S.glo, S.bl, S.tab, fun g y qs hg => ?_, fun g y qs n ks order hg hw => ?_⟩
      · obtain ⟨a', fd', d', o'⟩ := S.def_ g y qs hg
        exact ⟨k, a', fd', (ih g y qs a' fd' d' o').1, hr, o'.mg_, o'.fun_.kp, o'.binds⟩
      · obtain ⟨a', fd', d', o'⟩ := S.def_ g y qs hg
        obtain ⟨q1, q2⟩ := o'.kw n ks order hw
        exact ⟨⟨k, a', fd', (ih g y qs a' fd' d' o').1, hr, o'.mg_, o'.fun_.kp, q1⟩, q2⟩
    have mkX : ∀ (X : Cx), X.prog = P → X.w = w → X.K = K → X.mg = mg → X.base = base → X.stack = X.env :: X.outer → X.env.frame = some X.env.locals → Room k X.A → XX T (evCl G F k) X := fun X e1 e2 e3 e4 e5 e6 e7 hr => by
      subst e1; subst e2; subst e3; subst e4; subst e5
      refine ⟨e6, e7, fun hroom => ?_, fun g y qs hg => ?_, fun g y qs n ks order hg hw => ?_, S.exc⟩
      · obtain ⟨r, e⟩ := hroom
        cases k with
        | zero => cases e
        | succ k =>
          have e : (if XROOM < XOFF then F[XROOM]?.bind (fun d => evFn G (evCl G F k) d []) else if XROOM = XROOM then (if 1 ≤ k then some (RV.fz .non, []) else none) else F[XROOM - XOFF]?.bind fun d => exFn G (evCl G F k) d []) = some r := e
          rw [if_neg (by decide), if_pos rfl] at e
          split at e
          · rename_i hk1
            exact hr.mono (by omega)
          · cases e
      · obtain ⟨a', fd', d', o'⟩ := S.def_ g y qs hg
        exact ⟨k, a', fd', (ih g y qs a' fd' d' o').2, hr, o'.mg_, o'.fun_.kp, o'.binds⟩
      · obtain ⟨a', fd', d', o'⟩ := S.def_ g y qs hg
        obtain ⟨q1, q2⟩ := o'.kw n ks order hw
        exact ⟨⟨k, a', fd', (ih g y qs a' fd' d' o').2, hr, o'.mg_, o'.fun_.kp, q1⟩, q2⟩
    constructor
    · refine FF.ok hS (fun vs H Q E h => spEV_len h) fun cdv A outer s H vs Q E hr h => ?_
      refine ⟨tS K (evSs G (evCl G F k) d.fd.body), PSs.nox (sSs d.fd.body (defScope d.st) _ (mkK _ rfl rfl rfl rfl rfl rfl rfl rfl (fun _ => rfl) hr) (mkX _ rfl rfl rfl rfl rfl rfl rfl hr) PassesOwn.never _ h4), ?_⟩
      obtain ⟨Z, args, r, fin, hl, e, at0, q⟩ := h
      have e : (if f < XOFF then F[f]?.bind (fun d => evFn G (evCl G F k) d args) else if f = XROOM then (if 1 ≤ k then some (RV.fz .non, []) else none) else F[f - XOFF]?.bind fun d => exFn G (evCl G F k) d args) = some (r, fin) := e
      rw [if_pos hlt, hF] at e
      have e : (if args.length ≤ d.fd.m then (evSs G (evCl G F k) d.fd.body (startE d.fd.m args)).bind fun p => (flRv p.1).bind fun r => (finE args p.2).map fun us => (r, us) else none) = some (r, fin) := e
      split at e
      · rename_i hm
        obtain ⟨⟨fl, ρ'⟩, e1, e⟩ := Option.bind_eq_some_iff.mp e
        obtain ⟨r', e2, e⟩ := Option.bind_eq_some_iff.mp e
        obtain ⟨us, e3, e⟩ := Option.map_eq_some_iff.mp e
        cases e
        refine ⟨Z, pnOf vs, startE d.fd.m args, fl, ρ', sr_start at0 hm hmN, e1, ?_⟩
        cases fl with
        | nx =>
          cases e2
          exact fun σ' H' s' st => q _ _ (ret_of at0 e3 ⟨s', st, rfl⟩)
        | rt r2 =>
          cases e2
          exact fun σ' y H' p => q _ _ (ret_of at0 e3 p)
        | br => cases e2
        | ct => cases e2
      · cases e
    · refine FF.ok hS (fun vs H Q E h => spEX_len h) fun cdv A outer s H vs Q E hr h => ?_
      refine ⟨fun D σ H => tXX K mg T (fun cls d _ H => E cls d H) (exSs G (evCl G F k) d.fd.body) σ H, xSs d.fd.body (defScope d.st) _ _ (mkK _ rfl rfl rfl rfl rfl rfl rfl rfl (fun _ => rfl) hr) (mkX _ rfl rfl rfl rfl rfl rfl rfl hr) (takes_of rfl rfl rfl rfl) PassesOwn.leaving _ h4, ?_⟩
      obtain ⟨Z, us, x, hl, e, at0, q⟩ := h
      obtain ⟨r, e1, e⟩ := Option.bind_eq_some_iff.mp (show ((evCl G F (k + 1) (f + XOFF) (us.map fun v => (false, v))).bind fun r => decX r.1) = some x from e)
      have e1 : (if f + XOFF < XOFF then F[f + XOFF]?.bind (fun d => evFn G (evCl G F k) d (us.map fun v => (false, v))) else if f + XOFF = XROOM then (if 1 ≤ k then some (RV.fz .non, []) else none) else F[f + XOFF - XOFF]?.bind fun d => exFn G (evCl G F k) d (us.map fun v => (false, v))) = some r := e1
      have hlt2 : f < 1000 := hlt
      rw [if_neg (by omega), if_neg (by unfold XOFF XROOM; omega), Nat.add_sub_cancel, hF] at e1
      have e1 : (if d.fd.ex = true then if (us.map fun v => (false, v)).length ≤ d.fd.m ∧ ((us.map fun v => (false, v)).all fun p => !p.1) = true then (exSs G (evCl G F k) d.fd.body (startE d.fd.m (us.map fun v => (false, v)))).map fun q => (encX q.1, []) else none else none) = some r := e1
      split at e1
      · split at e1
        · rename_i hm
          obtain ⟨⟨x', ρ'⟩, e2, e3⟩ := Option.map_eq_some_iff.mp e1
          subst e3
          have hx : x' = x := by
            have : decX (encX x') = some x := e
            rw [decX_encX] at this
            exact Option.some.inj this
          subst hx
          refine ⟨Z, pnOf vs, startE d.fd.m (us.map fun v => (false, v)), x', ρ', sr_start at0 hm.1 hmN, e2, fun σ' H' cls dd s' st ex => q cls dd H' ?_ ?_⟩
          · have wi := wof_start (Z := Z) (N := d.N) (vs := vs) (m := d.fd.m) (args := us.map fun v => (false, v))
            refine ⟨(Ext.less fun b h => (wi b).mp h).trans (st.ext.trans (Ext.less fun b h => ?_)), st.zk⟩
            rcases h with h | ⟨i, v, h1, _⟩
            · exact .inl h
            · exact (all_false h1).elim
          · refine ex.ext (Ext.less fun b h => ?_)
            rcases h with h | ⟨i, v, h1, _⟩
            · exact .inl h
            · exact (all_false h1).elim
        · cases e1
      · cases e1
theorem Sys.run (S : Sys P w K mg base T G F) (k f : Nat) (x : Str) (ps : List Str) (a : Addr) (fd : FuncData) (d : DefI) (o : DefOk K mg T F f x ps a fd d) : FnOk P w K mg base CX0 k a fd ps (spEV K (evCl G F k) f ps.length) := (S.run2 k f x ps a fd d o).1
end
end EV
set_option Elab.async false
set_option linter.all false
set_option maxRecDepth 100000
namespace EV
open PySem PySem.Spec PyProof.Rows L2
/-! ### __init__ of an exception class -/
def clsAt (s : Stmt) (m : Nat) : Stmt := match s with
  | .ClassDef (body := b) .. => b.getD m (.Pass ⟨0, 0, 0, 0⟩)
  | _ => .Pass ⟨0, 0, 0, 0⟩
def baseB (K : PySem.W.Frag) (C : Addr) : Bool := He.eqO (PySem.W.specialIn K (.ref C) "__getattribute__") (some (some (.builtin "type.__getattribute__"))) && (decide (PySem.W.typeIn K (.ref C) = some (.type "type")) && (PySem.W.readsIn K C (.type "type") &&
  (match PySem.W.findCls K (.ref C) (.type "type") "__init__" with
    | some (.val (.builtin n)) => n == "ValueError.__init__"
    | _ => false)))
theorem pe_feinit {X : Cx} {e : Expr} {es : List Expr} {ta : TA} {B : Str} {Cf : Addr} {p1 p2 pos : Pos} (hg : Gl X B) (hm : X.mg B = some (.ref Cf)) (hdb : (B == ("__debug__" : Str)) = false) (hB : baseB X.K Cf = true) (ha : PA X (e :: es) ta)
    (hline : (p2.endLine == pos.line) = true) (hfew : methodCallForm ((e :: es).length + ([] : List Keyword).length) (backTo pos (starEach (e :: es) X.env)) (backToKw pos (keywordEach [] X.env)) = true)
    (he : starEach (e :: es) X.env = (false, eval e X.env) :: starEach es X.env := by rfl) (hpl : (backTo pos (starEach es X.env)).any (·.1) = false := by rfl) :
    PE X (.Call (.Attribute (.Name B p1) "__init__" p2) (e :: es) [] pos) (tVeI X.K ta) := by
  obtain ⟨b1, hB⟩ := and2 hB
  obtain ⟨b2, hB⟩ := and2 hB
  obtain ⟨b3, b4⟩ := and2 hB
  have b2 : PySem.W.typeIn X.K (.ref Cf) = some (.type "type") := of_decide_eq_true b2
  have b5 : PySem.W.findCls X.K (.ref Cf) (.type "type") "__init__" = some (.val (.builtin "ValueError.__init__")) := by
    split at b4
    · rename_i n hn
      have : n = "ValueError.__init__" := by simpa using b4
      rw [hn, this]
    · cases b4
  refine ⟨fun pins s σ H Q I h => ?_⟩
  have hpos : methodCallPos true (.Name B p1) X.env p2 pos = pure pos := by unfold methodCallPos; simp [hline]
  have hc : eval (.Call (.Attribute (.Name B p1) "__init__" p2) (e :: es) [] pos) X.env = (do
      let ov ← eval (.Name B p1) X.env
      standAt p2.atName
      let (f, first) ← holding [ov] (calleeOf true (.Name B p1) X.env ov "__init__")
      callWith pos f first (backTo pos (starEach (e :: es) X.env)) (backToKw pos (keywordEach [] X.env))) := by
    show (eval (.Name B p1) X.env >>= fun ov => standAt p2.atName >>= fun _ => methodCall (.Name B p1) "__init__" p2 pos X.env ov ((e :: es).length + ([] : List Keyword).length) (backTo pos (starEach (e :: es) X.env)) (backToKw pos (keywordEach [] X.env))) = _
    unfold methodCall
    rw [hfew, hpos]
    rfl
  refine PySem.W.methodCall_KW (ld_glob I hg hm ?_ hdb) hc
  obtain ⟨m, fr⟩ := I.fr
  refine PySem.W.method_of_cls fr I.ok.mod.kin (He.eqO_ok b1) (PySem.W.cls_val fr I.ok.mod.kin b2 b3 b5 (by decide +kernel) ?_)
  show wpAny _ _ (callWith pos (Value.builtin "ValueError.__init__") [] (backTo pos (starEach (e :: es) X.env)) []) _ _ _
  refine PyProof.Rows.callWith_method1 (thn (ha.run pos pins _ σ H _ (I.tok _) h) fun us s1 ⟨vs, H1, I1, r1, a, C, ws, ev, hl, T, ea, q⟩ => ?_) he hpl
  subst ev
  cases r1 with
  | @cons _ u0 _ ur ra rw' =>
    obtain rfl : u0 = Value.ref a := ra
    have hlen : ur.length ≤ sizeLine := by
      rw [← Paired.length rw', sizeLine_eq]
      omega
    exact oinit_ok T I1 ea hlen fun s' J => ⟨.non, H1, J, rfl, q⟩
def asB (N : List Str) (sc : Scope) (sf : Str) : List Str → Nat → List Stmt → Bool
  | [], _, ss => ss.isEmpty
  | f :: fs, i, ss => match ss with
    | .Assign [.Attribute (.Name s _) g _] (.Name v _) _ :: r => (s == sf) && (g == f) && (N[i]? == some v) && visB sc v && nameB v && asB N sc sf fs (i + 1) r
    | _ => false
def initB (N : List Str) (sc : Scope) (I : ExI) (ss : List Stmt) : Bool := match ss with
  | .Expr (.Call (.Attribute (.Name b _) m pm) [.Name sf _, .Constant (.str _) _ _] [] pcall) _ :: r => (b == I.base) && gloB sc b && nameB b && (m == ("__init__" : Str)) && (pm.endLine == pcall.line) && (N[0]? == some sf) && visB sc sf && nameB sf && asB N sc sf I.fs 1 r
  | _ => false
section
variable {X : Cx} {N : List Str} {sc : Scope}
theorem vis_of (hsc : X.env.scope = sc) {x : Str} (h : visB sc x = true) : Vis X.env.scope x := by
  rw [hsc]
  unfold visB at h
  unfold Vis
  split at h
  · rename_i e; exact .inl e
  · rename_i e; exact .inr (.inl e)
  · rename_i e; exact .inr (.inr e)
  · cases h
theorem gl_of (hsc : X.env.scope = sc) {x : Str} (h : gloB sc x = true) : Gl X x := by
  show X.env.scope.names.lookup x = _
  rw [hsc]
  unfold gloB at h
  split at h
  · rename_i e; exact e
  · cases h
theorem asB_cons {sf f : Str} {fs : List Str} {i : Nat} {ss : List Stmt} (h : asB N sc sf (f :: fs) i ss = true) : ∃ p1 p2 p3 v p4 r, ss = .Assign [.Attribute (.Name sf p1) f p2] (.Name v p3) p4 :: r ∧ N[i]? = some v ∧ visB sc v = true ∧ nameB v = true ∧ asB N sc sf fs (i + 1) r = true := by
  unfold asB at h
  split at h
  · rename_i s p1 g p2 v p3 p4 r
    obtain ⟨h, h6⟩ := and2 h
    obtain ⟨h, h5⟩ := and2 h
    obtain ⟨h, h4⟩ := and2 h
    obtain ⟨h, h3⟩ := and2 h
    obtain ⟨h1, h2⟩ := and2 h
    have e1 : s = sf := by simpa using h1
    have e2 : g = f := by simpa using h2
    subst e1 e2
    exact ⟨p1, p2, p3, v, p4, r, rfl, by simpa using h3, h4, h5, h6⟩
  · cases h
/-- what the fields' stores want: at a the exception, its dict at dx -/
theorem as_pss (hN : X.N = N) (hsc : X.env.scope = sc) {sf : Str} (h0 : N[0]? = some sf) (v0 : visB sc sf = true) (n0 : nameB sf = true) : ∀ (fs : List Str) (i : Nat) (ss : List Stmt), asB N sc sf fs i ss = true →
    ∃ t, PSs X ss t ∧ ∀ (D : Ends) (σ : L2.St) (H : Hp) (a C dx : Addr) (acc : List (Str × V)) (ws : List V), σ[0]? = some (some (.ref a)) → (∀ (j : Nat) (w : V), ws[j]? = some w → σ[i + j]? = some (some w)) → ws.length = fs.length → OexC X.K C →
      (∀ f ∈ fs, PySem.W.findIn X.K (.ref C) f = some none) → H a = some (exo a C (some dx)) → H dx = some (exd dx acc) → dx ≠ a → acc.length + fs.length ≤ 900 →
      (∀ H2 : Hp, H2 a = some (exo a C (some dx)) → H2 dx = some (exd dx ((fs.zip ws).reverse ++ acc)) → (∀ b, b ≠ a → b ≠ dx → H2 b = H b) → D.nx σ H2) → t D σ H
  | [], i, ss, h => by
    cases ss with
    | nil =>
      refine ⟨tNext, pss_nil, fun D σ H a C dx acc ws _ _ hl _ _ ha hd _ _ hq => ?_⟩
      exact hq H ha hd fun b _ _ => rfl
    | cons _ _ => cases h
  | f :: fs, i, ss, h => by
    obtain ⟨p1, p2, p3, v, p4, r, rfl, hv, vv, nv, hr⟩ := asB_cons h
    obtain ⟨t, ht, q⟩ := as_pss hN hsc h0 v0 n0 fs (i + 1) r hr
    have ps : PE X (.Name sf p1) (tVar 0) := pe_var (by rw [hN]; exact h0) (vis_of hsc v0) (nameB_1 n0) (nameB_2 n0)
    have pv : PE X (.Name v p3) (tVar i) := pe_var (by rw [hN]; exact hv) (vis_of hsc vv) (nameB_1 nv) (nameB_2 nv)
    refine ⟨_, pss_cons (ps_ost ps pv) ht, fun D σ H a C dx acc ws hs hws hl T hno ha hd hne hz hq => ?_⟩
    cases ws with
    | nil => simp at hl
    | cons w ws =>
      refine ⟨w, hws 0 w rfl, .ref a, hs, a, C, rfl, T, hno f List.mem_cons_self, .inr ⟨dx, acc, ha, hd, by omega, ?_⟩⟩
      refine q D σ (upd H dx (exd dx ((f, w) :: acc))) a C dx ((f, w) :: acc) ws hs (fun j x hx => ?_) (by simpa using hl) T (fun g hg => hno g (List.mem_cons_of_mem _ hg)) ?_ upd_same hne (by rw [List.length_cons] at hz ⊢; omega) fun H2 e1 e2 e3 => hq H2 e1 ?_ fun b nb nd => ?_
      · have := hws (j + 1) x (by simpa using hx)
        have e : i + (j + 1) = i + 1 + j := by omega
        rw [e] at this
        exact this
      · rw [upd_ne (Ne.symm hne)]; exact ha
      · rw [e2, List.zip_cons_cons, List.reverse_cons, List.append_assoc]
        rfl
      · rw [e3 b nb nd, upd_ne nd]
/-- the first store makes the dict -/
theorem as_pss0 (hN : X.N = N) (hsc : X.env.scope = sc) {sf : Str} (h0 : N[0]? = some sf) (v0 : visB sc sf = true) (n0 : nameB sf = true) {f : Str} {fs : List Str} {i : Nat} {ss : List Stmt} (h : asB N sc sf (f :: fs) i ss = true) :
    ∃ t, PSs X ss t ∧ ∀ (D : Ends) (σ : L2.St) (H : Hp) (a C : Addr) (ws : List V), σ[0]? = some (some (.ref a)) → (∀ (j : Nat) (w : V), ws[j]? = some w → σ[i + j]? = some (some w)) → ws.length = (f :: fs).length → OexC X.K C →
      (∀ g ∈ f :: fs, PySem.W.findIn X.K (.ref C) g = some none) → H a = some (exo a C none) → fs.length ≤ 800 →
      (∀ (dx : Addr) (H2 : Hp), H dx = none → dx ≠ a → H2 a = some (exo a C (some dx)) → H2 dx = some (exd dx ((f :: fs).zip ws).reverse) → (∀ b, b ≠ a → b ≠ dx → H2 b = H b) → D.nx σ H2) → t D σ H := by
  obtain ⟨p1, p2, p3, v, p4, r, rfl, hv, vv, nv, hr⟩ := asB_cons h
  obtain ⟨t, ht, q⟩ := as_pss hN hsc h0 v0 n0 fs (i + 1) r hr
  have ps : PE X (.Name sf p1) (tVar 0) := pe_var (by rw [hN]; exact h0) (vis_of hsc v0) (nameB_1 n0) (nameB_2 n0)
  have pv : PE X (.Name v p3) (tVar i) := pe_var (by rw [hN]; exact hv) (vis_of hsc vv) (nameB_1 nv) (nameB_2 nv)
  refine ⟨_, pss_cons (ps_ost ps pv) ht, fun D σ H a C ws hs hws hl T hno ha hz hq => ?_⟩
  cases ws with
  | nil => simp at hl
  | cons w ws =>
    refine ⟨w, hws 0 w rfl, .ref a, hs, a, C, rfl, T, hno f List.mem_cons_self, .inl ⟨ha, fun dx hdx hne => ?_⟩⟩
    refine q D σ (upd (upd H dx (exd dx [(f, w)])) a (exo a C (some dx))) a C dx [(f, w)] ws hs (fun j x hx => ?_) (by simpa using hl) T (fun g hg => hno g (List.mem_cons_of_mem _ hg)) upd_same ?_ hne (by show 1 + fs.length ≤ 900; omega) fun H2 e1 e2 e3 => hq dx H2 hdx hne e1 ?_ fun b nb nd => ?_
    · have := hws (j + 1) x (by simpa using hx)
      have e : i + (j + 1) = i + 1 + j := by omega
      rw [e] at this
      exact this
    · rw [upd_ne hne, upd_same]
    · rw [e2, List.zip_cons_cons, List.reverse_cons]
    · rw [e3 b nb nd, upd_ne nb, upd_ne nd]
end
theorem init_ok {P : Program} {w : World} {K : PySem.W.Frag} {mg : Str → Option Value} {base : Heap} {q : Str} {params : Arguments} {body : List Stmt} {scope : Scope} {fI Cf : Addr} {fd : FuncData} {N ps : List Str} {I : ExI} (F : FunD K "__init__" q params body scope [] [] fI fd)
    (S : FnScope N ps scope) (hb : initB N scope I body = true) (hp : ps.length = I.fs.length + 1) (hne : I.fs ≠ []) (hfew : I.fs.length ≤ 10) (hm : mg I.base = some (.ref Cf)) (hB : baseB K Cf = true) : FnOk P w K mg base CX0 1 fI fd ps (spInit K I.fs) := by
  refine F.ok (k := 0) S (fun vs H Q E h => ?_) fun cdv A outer s H vs Q E hr h => ?_
  · obtain ⟨a, C, ws, rfl, hl, _⟩ := h
    rw [List.length_cons, hl, hp]
  · unfold initB at hb
    split at hb
    · rename_i b pb m pm sf psf str ks pc pcall pe r
      obtain ⟨hb, h8⟩ := and2 hb
      obtain ⟨hb, h7⟩ := and2 hb
      obtain ⟨hb, h6⟩ := and2 hb
      obtain ⟨hb, h5⟩ := and2 hb
      obtain ⟨hb, hln⟩ := and2 hb
      obtain ⟨hb, h4⟩ := and2 hb
      obtain ⟨hb, h3⟩ := and2 hb
      obtain ⟨h1, h2⟩ := and2 hb
      have e1 : b = I.base := by simpa using h1
      have e4 : m = ("__init__" : Str) := by simpa using h4
      subst e1 e4
      have hN0 : N[0]? = some sf := by simpa using h5
      obtain ⟨f, fs, hfs⟩ : ∃ f fs, I.fs = f :: fs := by
        cases hh : I.fs with
        | nil => exact absurd hh hne
        | cons f fs => exact ⟨f, fs, rfl⟩
      rw [hfs] at h8 h hfew
      obtain ⟨t, ht, tq⟩ := as_pss0 (X := cxOf CX0 P w K mg base N q scope fI cdv A outer s H E) (sc := scope) rfl rfl hN0 h6 h7 h8
      have pself : PE (cxOf CX0 P w K mg base N q scope fI cdv A outer s H E) (.Name sf psf) (tVar 0) := pe_var hN0 (vis_of rfl h6) (nameB_1 h7) (nameB_2 h7)
      have pa : PA (cxOf CX0 P w K mg base N q scope fI cdv A outer s H E) [.Name sf psf, .Constant (.str str) ks pc] (tCons (tVar 0) (tCons (tC (.str str)) tNil)) := pa_cons pself (pa_cons pe_str pa_nil)
      refine ⟨_, pss_cons (ps_expr (pe_feinit (gl_of rfl h2) hm (nameB_1 h3) hB pa hln rfl)) ht, ?_⟩
      obtain ⟨a, C, ws, rfl, hl, ha, T, hno, hq⟩ := h
      have s0 : (L2.start N (V.ref a :: ws))[0]? = some (some (.ref a)) := start_at rfl
      refine ⟨.ref a, s0, a, C, [.str str], rfl, by show 1 ≤ 1000; decide, T, ha, ?_⟩
      refine tq _ _ H a C ws s0 (fun j x hx => ?_) hl T hno ha (by rw [List.length_cons] at hfew; omega) fun dx H2 hdx hne' e1 e2 e3 => hq dx H2 hdx hne' e1 e2 e3
      have e : 1 + j = j + 1 := by omega
      rw [e]
      exact start_at (by simpa using hx)
    · cases hb
/-! ### the facts of an exception class, looked at -/
def oexB (K : PySem.W.Frag) (C : Addr) : Bool := (match K.lookup C with
  | some ⟨.type "type", _, .cls cd, sl⟩ => (match cd.mro, sl.toList with
    | .ref C' :: bm, [_, _, _, _, some (.builtin n), _] => C' == C && (n == "ValueError.__new__" && (!cd.hasDel && (cd.hasDict && PySem.HandSPX.refsVE bm)))
    | _, _ => false)
  | _ => false) && (He.eqO (PySem.W.findIn K (.ref C) "__setattr__") (some (some (.builtin "object.__setattr__"))) && (decide (PySem.W.subIn K (.ref C) (.type "BaseException") = some true) && (decide (PySem.W.typeIn K (.ref C) = some (.type "type")) && PySem.W.keepIn K (.ref C))))
theorem oexB_ok {K : PySem.W.Frag} {C : Addr} (h : oexB K C = true) : OexC K C := by
  obtain ⟨q, h⟩ := and2 h
  obtain ⟨h1, h⟩ := and2 h
  obtain ⟨h2, h⟩ := and2 h
  obtain ⟨h3, h4⟩ := and2 h
  refine ⟨?_, He.eqO_ok h1, of_decide_eq_true h2, of_decide_eq_true h3, h4⟩
  split at q
  · rename_i dd cd sl ho
    split at q
    · rename_i C' bm k0 k1 k2 k3 n k5 hm hs
      obtain ⟨q1, q⟩ := and2 q
      obtain ⟨q2, q⟩ := and2 q
      obtain ⟨q3, q⟩ := and2 q
      obtain ⟨q4, q5⟩ := and2 q
      have e1 : C' = C := by simpa using q1
      have e2 : n = "ValueError.__new__" := by simpa using q2
      subst e1 e2
      obtain ⟨nm, bs, mro, ns, qn, hd, sn, sub, ab, col, del⟩ := cd
      dsimp only at hm q3 q4
      have q3 := not_t q3
      subst hm q3 q4
      have hsl : sl = #[k0, k1, k2, k3, some (.builtin "ValueError.__new__"), k5] := by
        obtain ⟨l⟩ := sl
        simp only at hs
        rw [hs]
      subst hsl
      exact ⟨nm, qn, ns, bs, bm, sn, sub, ab, col, dd, k0, k1, k2, k3, k5, ho, q5⟩
    · cases q
  · cases q
def excB (K : PySem.W.Frag) (I : ExI) : Bool := He.eqO (PySem.W.nsIn K mainGlobals I.name) (some (some (.ref (He.ga K I.name)))) && (He.eqO (PySem.W.nsIn K mainGlobals I.base) (some (some (.ref (He.ga K I.base)))) &&
  (oexB K (He.ga K I.name) && (xfB K (He.ga K I.name) && (I.fs.all (fun f => He.eqO (PySem.W.findIn K (.ref (He.ga K I.name)) f) (some none)) && (decide (PySem.W.exmOne K (.ref (He.ga K I.name)) (.ref (He.ga K I.name)) = some true) &&
  (He.eqO (PySem.W.findIn K (.ref (He.ga K I.name)) "__init__") (some (some (.ref (He.ma K (He.ga K I.name) "__init__")))) && (decide (PySem.W.typeIn K (.ref (He.ma K (He.ga K I.name) "__init__")) = some (.type "function")) && baseB K (He.ga K I.base))))))))
theorem excB_ok {P : Program} {w : World} {K : PySem.W.Frag} {mg : Str → Option Value} {base h : Heap} {q : Str} {params : Arguments} {body : List Stmt} {scope : Scope} {fd : FuncData} {N ps : List Str} {I : ExI} (X : K.In h) (Gx : h.Ns mainGlobals mg) (c : excB K I = true)
    (F : FunD K "__init__" q params body scope [] [] (He.ma K (He.ga K I.name) "__init__") fd) (S : FnScope N ps scope) (hb : initB N scope I body = true) (hp : ps.length = I.fs.length + 1) (hne : I.fs ≠ []) (hfew : I.fs.length ≤ 10) (hnd : I.fs.Nodup) (hbi : Binds K fd ps []) :
    ExcAt P w K mg base I := by
  obtain ⟨c1, c⟩ := and2 c
  obtain ⟨c2, c⟩ := and2 c
  obtain ⟨c3, c⟩ := and2 c
  obtain ⟨c4, c⟩ := and2 c
  obtain ⟨c5, c⟩ := and2 c
  obtain ⟨c6, c⟩ := and2 c
  obtain ⟨c7, c⟩ := and2 c
  obtain ⟨c8, c9⟩ := and2 c
  exact ⟨⟨_, _, fd, ps, PySem.W.mg_of X Gx (He.eqO_ok c1), oexB_ok c3, xfB_ok c4, fun f hf => He.eqO_ok (List.all_eq_true.mp c5 f hf), of_decide_eq_true c6, He.eqO_ok c7, of_decide_eq_true c8,
    init_ok F S hb hp hne hfew (PySem.W.mg_of X Gx (He.eqO_ok c2)) c9, hbi⟩, hnd, hfew⟩
end EV
set_option Elab.async false
set_option linter.all false
set_option maxRecDepth 100000
namespace EV
open PySem PySem.Spec PyProof.Rows L2
/-! ### globals that are data -/
mutual
def gB (K : PySem.W.Frag) : PV → Value → Bool
  | .non, u => match u with | .none => true | _ => false
  | .bl b, u => match u with | .bool c => b == c | _ => false
  | .int i, u => match u with | .int j _ => decide (i = j) | _ => false
  | .str x, u => match u with | .str y _ => decide (x = y) | _ => false
  | .tup xs, u => match u with
    | .ref a => (match K.lookup a with
      | some ⟨.type c, _, .seq its _, _⟩ => decide (c = "tuple") && (decide (its.size ≤ sizeLine) && gBs K xs its.toList)
      | _ => false)
    | _ => false
  | .lst _, _ => false
  | .dct _, _ => false
def gBs (K : PySem.W.Frag) : List PV → List Value → Bool
  | [], us => us.isEmpty
  | x :: xs, us => match us with
    | u :: r => gB K x u && gBs K xs r
    | [] => false
end
section
variable {K : PySem.W.Frag}
mutual
theorem gB_ok : ∀ (v : PV) (u : Value), gB K v u = true → ∃ y, RelV y u ∧ ∀ W H, Rep K W H v y
  | .non, u, h => by
    cases u with
    | none => exact ⟨.non, rfl, fun _ _ => rfl⟩
    | _ => cases h
  | .bl b, u, h => by
    cases u with
    | bool c =>
      have e : b = c := eq_of_beq h
      subst e
      exact ⟨.bl b, rfl, fun _ _ => rfl⟩
    | _ => cases h
  | .int i, u, h => by
    cases u with
    | int j t =>
      have e : i = j := of_decide_eq_true h
      subst e
      exact ⟨.int i, ⟨t, rfl⟩, fun _ _ => rfl⟩
    | _ => cases h
  | .str x, u, h => by
    cases u with
    | str j t =>
      have e : x = j := of_decide_eq_true h
      subst e
      exact ⟨.str x, ⟨t, rfl⟩, fun _ _ => rfl⟩
    | _ => cases h
  | .tup xs, u, h => by
    cases u with
    | ref a =>
      have h : (match K.lookup a with
        | some ⟨.type c, _, .seq its _, _⟩ => decide (c = "tuple") && (decide (its.size ≤ sizeLine) && gBs K xs its.toList)
        | _ => false) = true := h
      split at h
      · rename_i c _ its n _ hq
        obtain ⟨h1, h⟩ := and2 h
        obtain ⟨h2, h3⟩ := and2 h
        obtain ⟨ys, r, hr⟩ := gBs_ok xs its.toList h3
        exact ⟨.ref a, rfl, fun W H => ⟨a, ys, rfl, .inr ⟨_, its, n, hq, congrArg Value.type (of_decide_eq_true h1), rfl, of_decide_eq_true h2, r⟩, hr W H⟩⟩
      · cases h
    | _ => cases h
  | .lst _, _, h => by cases h
  | .dct _, _, h => by cases h
theorem gBs_ok : ∀ (vs : List PV) (us : List Value), gBs K vs us = true → ∃ ys, Vals ys us ∧ ∀ W H, Reps K W H vs ys
  | [], us, h => by
    cases us with
    | nil => exact ⟨[], .nil, fun _ _ => rfl⟩
    | cons _ _ => cases h
  | v :: vs, us, h => by
    cases us with
    | nil => cases h
    | cons u r =>
      obtain ⟨h1, h2⟩ := and2 (show (gB K v u && gBs K vs r) = true from h)
      obtain ⟨y, ry, hy⟩ := gB_ok v u h1
      obtain ⟨ys, rs, hs⟩ := gBs_ok vs r h2
      exact ⟨y :: ys, .cons ry rs, fun W H => ⟨y, ys, rfl, hy W H, hs W H⟩⟩
end
end
def gFact (K : PySem.W.Frag) (q : Str × PV) : Bool := match PySem.W.nsIn K mainGlobals q.1 with
  | some (some u) => gB K q.2 u
  | _ => false
theorem gFact_ok {K : PySem.W.Frag} {h : Heap} {mg : Str → Option Value} (X : K.In h) (G : h.Ns mainGlobals mg) {q : Str × PV} (c : gFact K q = true) : ∃ (u : Value) (y : V), mg q.1 = some u ∧ RelV y u ∧ ∀ W H, Rep K W H q.2 y := by
  unfold gFact at c
  cases e : PySem.W.nsIn K mainGlobals q.1 with
  | none => rw [e] at c; cases c
  | some r =>
    rw [e] at c
    cases r with
    | none => cases c
    | some u =>
      obtain ⟨y, r, hr⟩ := gB_ok q.2 u c
      exact ⟨u, y, PySem.W.mg_of X G e, r, hr⟩
/-! ### tables with text keys -/
abbrev TabV : Type := Str × List (Str × Str)
def tabB (K : PySem.W.Frag) (t : TabV) : Bool := He.eqO (PySem.W.nsIn K mainGlobals t.1) (some (some (.ref (He.ga K t.1)))) && t.2.all fun q => match PySem.W.nsIn K (He.ga K t.1) q.1 with
  | some (some (.str y _)) => decide (y = q.2)
  | _ => false
/-! ### the Hook -/
abbrev AlV : Type := (Bool × He.AlD) × List (Option (List (Option (Str × Int))))
def obsV (gl : List (Str × PV)) (ts : List TabV) (xs : List ExI) (fa : List He.Fa) (fn : List He.DefD) (K : PySem.W.Frag) : AlV := (((gl.all (gFact K) && ts.all (tabB K)) && xs.all (excB K), He.obsD fa fn K), ts.map fun t => He.dicW K (He.ga K t.1))
def valV (ts : List TabV) (fn : List He.DefD) (w : World) : AlV := ((true, He.valD fn), ts.map fun t => some (He.keysIn w.params (t.2.map (·.1))))
def SaysV (gl : List (Str × PV)) (ts : List TabV) (xs : List ExI) (fa : List He.Fa) (fn : List He.DefD) (w : World) (K : PySem.W.Frag) : Prop := obsV gl ts xs fa fn K = valV ts fn w
def obsVG (n : Nat) (gl : List (Str × PV)) (ts : List TabV) (xs : List ExI) (fa : List He.Fa) (fn : List He.DefD) (g : Addr → Option Obj) : AlV := obsV gl ts xs fa fn (He.frG g (cStatics :: He.asD g n))
def hookV (n : Nat) (gl : List (Str × PV)) (ts : List TabV) (xs : List ExI) (fa : List He.Fa) (fn : List He.DefD) : PySem.W.Hook where
  α := AlV
  obs := fun s => obsVG n gl ts xs fa fn s.heap.get?
  val := fun w => valV ts fn w
  says := fun w h => ∃ K : PySem.W.Frag, K.In h ∧ SaysV gl ts xs fa fn w K
  of := fun _ _ e => ⟨_, He.frG_in, e⟩
  keeps := fun _ _ _ ⟨K, hK, c⟩ k => ⟨K, PySem.W.Frag.In.keeps hK k, c⟩
theorem obsVG_eq {n : Nat} {gl : List (Str × PV)} {ts : List TabV} {xs : List ExI} {fa : List He.Fa} {fn : List He.DefD} {g : Addr → Option Obj} {s : Shared} (h : ∀ a, g a = s.heap.get? a) : obsVG n gl ts xs fa fn g = (hookV n gl ts xs fa fn).obs s := by
  have e : g = s.heap.get? := funext h
  rw [e] <;> rfl
section
variable {gl : List (Str × PV)} {ts : List TabV} {xs : List ExI} {fa : List He.Fa} {fn : List He.DefD} {w : World} {K : PySem.W.Frag}
theorem SaysV.d (c : SaysV gl ts xs fa fn w K) : He.SaysD fa fn K := congrArg (fun z : AlV => z.1.2) c
theorem SaysV.b0 (c : SaysV gl ts xs fa fn w K) : (gl.all (gFact K) && ts.all (tabB K)) = true ∧ xs.all (excB K) = true := and2 (show ((gl.all (gFact K) && ts.all (tabB K)) && xs.all (excB K)) = true from congrArg (fun z : AlV => z.1.1) c)
theorem SaysV.b (c : SaysV gl ts xs fa fn w K) : gl.all (gFact K) = true ∧ ts.all (tabB K) = true := and2 c.b0.1
theorem SaysV.x (c : SaysV gl ts xs fa fn w K) {I : ExI} (h : I ∈ xs) : excB K I = true := List.all_eq_true.mp c.b0.2 I h
theorem SaysV.g (c : SaysV gl ts xs fa fn w K) {q : Str × PV} (h : q ∈ gl) : gFact K q = true := List.all_eq_true.mp c.b.1 q h
theorem lookup_mem : ∀ {kvs : List (Str × Str)} {z u : Str}, kvs.lookup z = some u → (z, u) ∈ kvs
  | [], _, _, h => by cases h
  | (k, v) :: r, z, u, h => by
    rw [List.lookup_cons] at h
    split at h
    · rename_i e
      cases h
      rw [eq_of_beq e]
      exact List.mem_cons_self
    · exact List.mem_cons_of_mem _ (lookup_mem h)
theorem tab_of {h : Heap} {mg : Str → Option Value} (X : K.In h) (Gx : h.Ns mainGlobals mg) (c : SaysV gl ts xs fa fn w K) (n : Nat) (x : Str) (kvs : List (Str × Str)) (e : ts[n]? = some (x, kvs)) : ∃ a : Addr, mg x = some (.ref a) ∧ ∀ z u, kvs.lookup z = some u → KDct K w a z (.str u) := by
  have hm : (x, kvs) ∈ ts := List.mem_of_getElem? e
  obtain ⟨b1, b2⟩ := and2 (show (He.eqO (PySem.W.nsIn K mainGlobals x) (some (some (.ref (He.ga K x)))) && kvs.all fun q => match PySem.W.nsIn K (He.ga K x) q.1 with
    | some (some (.str y _)) => decide (y = q.2)
    | _ => false) = true from List.all_eq_true.mp c.b.2 _ hm)
  refine ⟨He.ga K x, PySem.W.mg_of X Gx (He.eqO_ok b1), fun z u hl => ?_⟩
  have e2 : ts.map (fun t => He.dicW K (He.ga K t.1)) = ts.map fun t => some (He.keysIn w.params (t.2.map (·.1))) := congrArg (fun z : AlV => z.2) c
  have e3 : (ts.map fun t => He.dicW K (He.ga K t.1))[n]? = (ts.map fun t => some (He.keysIn w.params (t.2.map (·.1))))[n]? := by rw [e2]
  rw [List.getElem?_map, List.getElem?_map, e] at e3
  obtain ⟨es, m, kd⟩ := He.dicW_ok (Option.some.inj e3)
  have b3 := List.all_eq_true.mp b2 _ (lookup_mem hl)
  cases q : PySem.W.nsIn K (He.ga K x) z with
  | none => rw [show (z, u).1 = z from rfl, q] at b3; cases b3
  | some r =>
    rw [show (z, u).1 = z from rfl, q] at b3
    cases r with
    | none => cases b3
    | some v =>
      cases v with
      | str y t =>
        have ey : y = u := of_decide_eq_true b3
        subst ey
        exact ⟨es, m, .str y t, kd.at_, kd.lit, q, t, rfl⟩
      | _ => cases b3
end
/-! ### the law's promise -/
def spLaw (K : PySem.W.Frag) (most : Nat) : Sp := fun vs H Q _ => ∃ (a : Addr) (ns : List Int), vs = [.ref a] ∧ SqL K H a (ns.map V.int) ∧ ns.length ≤ most ∧ ∀ H', Q (.bl true) H'
theorem reps_ints {K : PySem.W.Frag} {W : AS} {H : Hp} : ∀ ns : List Int, Reps K W H (ns.map PV.int) (ns.map V.int)
  | [] => rfl
  | n :: ns => ⟨.int n, ns.map V.int, rfl, rfl, reps_ints ns⟩
theorem law_sp {K : PySem.W.Frag} {C : Cl} {f most : Nat} (h : ∀ ns : List Int, ns.length ≤ most → C f [(false, .lst (ns.map PV.int))] = some (.fz (.bl true), [])) (vs : List V) (H : Hp) (Q : VK) (E : XK) (q : spLaw K most vs H Q E) : spEV K C f 1 vs H Q E := by
  obtain ⟨a, ns, rfl, hS, hl, hQ⟩ := q
  refine ⟨fun _ => False, [(false, .lst (ns.map PV.int))], .fz (.bl true), [], rfl, h ns hl, ⟨rfl, fun _ z => z.elim, fun i v e => ?_, fun i v e => ?_, fun i j v w e e' => ?_⟩, fun x H' ra => ?_⟩
  · cases i with
    | zero =>
      have e : (false, PV.lst (ns.map PV.int)) = (false, v) := Option.some.inj e
      cases e
      refine ⟨.ref a, rfl, a, ns.map V.int, rfl, ?_, reps_ints ns⟩
      rcases hS with hS | hS
      · refine .inl ⟨hS, fun z => ?_⟩
        rcases z with z | ⟨i, v, e, _⟩
        · exact z
        · cases i with
          | zero => cases (Option.some.inj e)
          | succ i => simp at e
      · exact .inr hS
    | succ i => simp at e
  · cases i with
    | zero => cases (Option.some.inj e)
    | succ i => simp at e
  · cases i with
    | zero => cases (Option.some.inj e)
    | succ i => simp at e
  · obtain ⟨_, rp, _⟩ := ra
    rw [show x = .bl true from rp]
    exact hQ H'
/-! ### keywords, tables -/
theorem pick_vals {vs : List V} {us : List Value} (r : Vals vs us) : ∀ order : List Nat, (∃ xs ys, pick vs order = some xs ∧ pick us order = some ys ∧ Vals xs ys) ∨ (pick vs order = none ∧ pick us order = none)
  | [] => .inl ⟨[], [], rfl, rfl, .nil⟩
  | i :: o => by
    have e1 : pick vs (i :: o) = vs[i]?.bind fun x => (pick vs o).map (x :: ·) := rfl
    have e2 : pick us (i :: o) = us[i]?.bind fun x => (pick us o).map (x :: ·) := rfl
    cases h : vs[i]? with
    | none =>
      have h' : us[i]? = none := by
        rw [List.getElem?_eq_none_iff] at h ⊢
        rw [← r.length]
        exact h
      exact .inr ⟨by rw [e1, h]; rfl, by rw [e2, h']; rfl⟩
    | some x =>
      obtain ⟨u, hu, ru⟩ := r.get h
      rcases pick_vals r o with ⟨xs, ys, g1, g2, g3⟩ | ⟨g1, g2⟩
      · exact .inl ⟨x :: xs, u :: ys, by rw [e1, h, g1]; rfl, by rw [e2, hu, g2]; rfl, .cons ru g3⟩
      · exact .inr ⟨by rw [e1, h, g1]; rfl, by rw [e2, hu, g2]; rfl⟩
theorem pick_rel {vs : List V} {us : List Value} (r : Vals vs us) (order : List Nat) : Vals ((pick vs order).getD []) ((pick us order).getD []) := by
  rcases pick_vals r order with ⟨xs, ys, g1, g2, g3⟩ | ⟨g1, g2⟩
  · rw [g1, g2]; exact g3
  · rw [g1, g2]; exact .nil
theorem kbn_of {K : PySem.W.Frag} {x qual : Str} {params : Arguments} {body : List Stmt} {scope : Scope} {kws : List (Str × V)} {f : Addr} {fd : FuncData} {ps ks : List Str} {n : Nat} {order : List Nat} (F : FunD K x qual params body scope [] kws f fd)
    (h : ∀ (kV doc pm : Value) (an : Option Addr) (cdv ct : Value) (us ws : List Value), us.length = n → ws.length = ks.length → bindArgs (PySem.W.fnOf x qual params body scope .none kV doc pm an cdv ct) ⟨us, ks.zip ws⟩ = pure (ps.zip ((pick (us ++ ws) order).getD []))) :
    KBn K fd ps n ks (fun us ws => (pick (us ++ ws) order).getD []) (fun vs zs => (pick (vs ++ zs) order).getD []) := by
  obtain ⟨oc, od, dV, kV, doc, pm, an, cdv, ct, osl, rfl, lk, hcd, hD, hK⟩ := F.ex
  rcases hD with ⟨_, rfl⟩ | ⟨e, _⟩
  · exact ⟨fun s us ws _ l1 l2 => .of_eq (h kV doc pm an cdv ct us ws l1 l2), fun r1 r2 => pick_rel (r1.append r2) order⟩
  · exact absurd rfl e
section
variable {T : Tab} {f n : Nat} {ks : List Str} {order : List Nat}
theorem kw_no (h : (T.kws.all fun q => q.1 != f) = true) (hw : T.kws.contains (f, n, ks, order) = true) {α : Prop} : α := by
  have hm : (f, n, ks, order) ∈ T.kws := by simpa using hw
  have := List.all_eq_true.mp h _ hm
  simp at this
theorem kw_one {q : Nat × Nat × List Str × List Nat} (h : T.kws.filter (fun q => q.1 == f) = [q]) (hw : T.kws.contains (f, n, ks, order) = true) : (f, n, ks, order) = q := by
  have hm : (f, n, ks, order) ∈ T.kws := by simpa using hw
  have : (f, n, ks, order) ∈ T.kws.filter (fun q => q.1 == f) := List.mem_filter.mpr ⟨hm, by simp⟩
  rw [h] at this
  simpa using this
end
theorem zip_mem {α β : Type} : ∀ {xs : List α} {ys : List β} {n : Nat} {x : α} {y : β}, xs[n]? = some x → ys[n]? = some y → (x, y) ∈ xs.zip ys
  | [], _, _, _, _, h, _ => by simp at h
  | _ :: _, [], _, _, _, _, h => by simp at h
  | a :: xs, b :: ys, 0, x, y, h, h' => by
    have e : a = x := by simpa using h
    have e' : b = y := by simpa using h'
    subst e e'
    exact List.mem_cons_self
  | a :: xs, b :: ys, n + 1, x, y, h, h' => List.mem_cons_of_mem _ (zip_mem (n := n) (by simpa using h) (by simpa using h'))
theorem fact_of {fa : List He.Fa} {fn : List He.DefD} {K : PySem.W.Frag} (c : He.SaysD fa fn K) {f : He.Fa} (h : f ∈ fa) : f.ok K = true := by
  have c1 := (He.ba (show ((fa.all fun f => f.ok K) && fn.all fun d => d.ok K) = true from congrArg (fun z : He.AlD => z.1) c)).1
  exact List.all_eq_true.mp c1 f h
/-- the built-in names stand free -/
def frees : List He.Fa := ["len", "int", "tuple", "list", "all", "any", "min", "max", "sum", "abs", "bool", "str", "dict", "isinstance", "range", "enumerate", "zip"].map fun x => He.Fa.free (Str.ofString x)
theorem bl_of {gs : List He.Fa} {fn : List He.DefD} {K : PySem.W.Frag} {h : Heap} {mg : Str → Option Value} (X : K.In h) (G : h.Ns mainGlobals mg) (c : He.SaysD (gs ++ frees) fn K) (x : String) (hx : x ∈ ["len", "int", "tuple", "list", "all", "any", "min", "max", "sum", "abs", "bool", "str", "dict", "isinstance", "range", "enumerate", "zip"]) : mg (Str.ofString x) = none :=
  He.free_ok X G (fact_of c (List.mem_append_right _ (List.mem_map_of_mem hx)))
theorem glo_of {T : Tab} {G : List PV} {fa : List He.Fa} {fn : List He.DefD} {K : PySem.W.Frag} {h : Heap} {mg : Str → Option Value} (X : K.In h) (Gx : h.Ns mainGlobals mg) {w : World} {ts : List TabV} {xs : List ExI} (c : SaysV (T.glo.zip G) ts xs fa fn w K) (n : Nat) (x : Str) (v : PV) (h1 : T.glo[n]? = some x) (h2 : G[n]? = some v) :
    ∃ (u : Value) (y : V), mg x = some u ∧ RelV y u ∧ ∀ W H, Rep K W H v y := gFact_ok X Gx (c.g (zip_mem h1 h2))
end EV
set_option linter.all false
set_option maxRecDepth 100000
namespace EV.Law
open PySem EV
abbrev c_is_integer : Nat := 0
abbrev c_is_at_least : Nat := 1
abbrev c_is_sign : Nat := 2
abbrev c_is_signs : Nat := 3
abbrev c_is_word_of : Nat := 4
abbrev c_is_tags : Nat := 5
abbrev c_is_head : Nat := 6
abbrev c_is_format : Nat := 7
abbrev c_is_file_of : Nat := 8
abbrev c_check_format : Nat := 9
abbrev c_check_file : Nat := 10
abbrev c_first_stand : Nat := 11
abbrev c_use_at : Nat := 12
abbrev c_body_stand : Nat := 13
abbrev c_behind_length : Nat := 14
abbrev c_behind_second : Nat := 15
abbrev c_behind_body : Nat := 16
abbrev c_behind_head : Nat := 17
abbrev c_behind_tag : Nat := 18
abbrev c_step : Nat := 19
abbrev c_is_ending : Nat := 20
abbrev c_is_looking : Nat := 21
abbrev c_word_at : Nat := 22
abbrev c_refusal_of : Nat := 23
abbrev c_told_at : Nat := 24
abbrev c_told_in : Nat := 25
abbrev c_looked_in : Nat := 26
abbrev c_check_read : Nat := 27
abbrev c_read : Nat := 28
abbrev c_refusal : Nat := 29
abbrev c_looked_at : Nat := 30
abbrev c_law_bag : Nat := 31
abbrev c_law_grab : Nat := 32
abbrev c_law_equal : Nat := 33
abbrev c_law_use : Nat := 34
abbrev c_law_long : Nat := 35
abbrev c_law_chunk : Nat := 36
abbrev c_law_reading : Nat := 37
abbrev c_law_long_file : Nat := 38
abbrev c_law_told : Nat := 39
abbrev c_law : Nat := 40
abbrev g_USES : Nat := 0
abbrev g_GREATEST_BASE : Nat := 1
abbrev g_WIDTHS : Nat := 2
abbrev g_OTHERS : Nat := 3
abbrev g_TAG : Nat := 4
abbrev g_SKIP : Nat := 5
abbrev g_CHECK : Nat := 6
abbrev g_ONE : Nat := 7
abbrev g_HIGH : Nat := 8
abbrev g_END : Nat := 9
abbrev g_ROOM : Nat := 10
abbrev g_STOP : Nat := 11
abbrev g_OVER : Nat := 12
abbrev g_SHORT : Nat := 13
abbrev g_TOLD : Nat := 14
abbrev x_Refused : Nat := 0
def t_WORDS : List (Str × Str) := [("head", "head"), ("tag", "tag"), ("length", "length"), ("second", "length"), ("sum", "check"), ("over", "behind")]
def f_is_integer : FD where
  m := 1
  body := [.ret (.ands [(.isi (.var 0) [.int]), (.not (.isi (.var 0) [.bool]))])]
def f_is_at_least : FD where
  m := 2
  body := [.ret (.ands [(.call c_is_integer [(.val, (.var 0))]), (.cmp .ge (.var 0) (.var 1))])]
def f_is_sign : FD where
  m := 2
  body := [.ret (.ands [(.call c_is_integer [(.val, (.var 1))]), (.chain .le .lt (.lit (.int 0)) (.var 1) (.var 0))])]
def f_is_signs : FD where
  m := 3
  body := [.ret (.ands [(.isi (.var 1) [.tuple]), (.bi .all [(.ref, (.comp (.call c_is_sign [(.val, (.var 0)), (.val, (.var 2))]) [2] (.name 2) (.ex (.var 1)) []))])])]
def f_is_word_of : FD where
  m := 2
  body := [.ret (.ands [(.isi (.var 0) [.str]), (.cmp .isin (.var 0) (.var 1))])]
def f_is_tags : FD where
  m := 4
  body := [.ite (.not (.isi (.var 1) [.tuple]))
    [.ret (.lit (.bl false))]
    [],
  .for_ (.name 2) (.ex (.var 1))
    [.ite (.ors [(.not (.isi (.var 2) [.tuple])), (.cmp .ne (.bi .len [(.ref, (.var 2))]) (.lit (.int 2))), (.not (.call c_is_sign [(.val, (.var 0)), (.val, (.idx (.var 2) (.lit (.int 0))))])), (.not (.call c_is_word_of [(.val, (.idx (.var 2) (.lit (.int 1)))), (.val, (.glo g_USES))]))])
       [.ret (.lit (.bl false))]
       []],
  .ret (.bi .all [(.ref, (.comp (.cmp .lt (.idx (.var 2) (.lit (.int 0))) (.idx (.var 3) (.lit (.int 0)))) [2, 3] (.tup [(.name 2), (.name 3)]) (.zip (.var 1) (.slc (.var 1) (some (.lit (.int 1))) none)) []))])]
def f_is_head : FD where
  m := 3
  body := [.ret (.ands [(.isi (.var 1) [.tuple]), (.bi .all [(.ref, (.comp (.ors [(.cmp .is (.var 2) (.lit .non)), (.call c_is_sign [(.val, (.var 0)), (.val, (.var 2))])]) [2] (.name 2) (.ex (.var 1)) []))])])]
def f_is_format : FD where
  m := 7
  body := [.ite (.ors [(.not (.isi (.var 0) [.tuple])), (.cmp .ne (.bi .len [(.ref, (.var 0))]) (.lit (.int 6)))])
    [.ret (.lit (.bl false))]
    [],
  .asg (.tup [(.name 1), (.name 2), (.name 3), (.name 4), (.name 5), (.name 6)]) (.var 0),
  .ite (.ors [(.not (.call c_is_at_least [(.val, (.var 1)), (.val, (.lit (.int 2)))])), (.cmp .gt (.var 1) (.glo g_GREATEST_BASE)), (.not (.call c_is_head [(.val, (.var 1)), (.val, (.var 2))]))])
    [.ret (.lit (.bl false))]
    [],
  .ite (.ors [(.not (.call c_is_word_of [(.val, (.var 3)), (.val, (.glo g_WIDTHS))])), (.not (.call c_is_at_least [(.val, (.var 4)), (.val, (.lit (.int 0)))]))])
    [.ret (.lit (.bl false))]
    [],
  .ret (.ands [(.call c_is_tags [(.val, (.var 1)), (.val, (.var 5))]), (.call c_is_word_of [(.val, (.var 6)), (.val, (.glo g_OTHERS))])])]
def f_is_file_of : FD where
  m := 2
  body := [.ret (.call c_is_signs [(.val, (.idx (.var 0) (.lit (.int 0)))), (.val, (.var 1))])]
def f_check_format : FD where
  m := 1
  body := [.ite (.not (.call c_is_format [(.val, (.var 0))]))
    [.never]
    []]
def f_check_file : FD where
  m := 2
  body := [.ite (.not (.call c_is_file_of [(.val, (.var 0)), (.val, (.var 1))]))
    [.never]
    []]
def f_first_stand : FD where
  m := 1
  body := [.ret (.ite (.cmp .ne (.idx (.var 0) (.lit (.int 1))) (.tup [])) (.tup [(.val, (.lit (.str "head"))), (.val, (.lit (.int 0)))]) (.glo g_TAG))]
def f_use_at : FD where
  m := 4
  body := [.for_ (.tup [(.name 2), (.name 3)]) (.ex (.idx (.var 0) (.lit (.int 4))))
    [.ite (.cmp .eq (.var 2) (.var 1))
       [.ret (.var 3)]
       []],
  .ret (.ite (.cmp .eq (.idx (.var 0) (.lit (.int 5))) (.glo g_SKIP)) (.glo g_SKIP) (.lit .non))]
def f_body_stand : FD where
  m := 2
  body := [.ite (.cmp .gt (.var 1) (.lit (.int 0)))
    [.ret (.tup [(.val, (.lit (.str "body"))), (.val, (.var 0)), (.val, (.var 1)), (.val, (.lit (.int 0)))])]
    [],
  .ret (.ite (.cmp .eq (.var 0) (.glo g_CHECK)) (.tup [(.val, (.lit (.str "sum"))), (.val, (.lit (.int 0)))]) (.glo g_TAG))]
def f_behind_length : FD where
  m := 6
  body := [.par [4, 5] [(.idx (.var 0) (.lit (.int 0))), (.idx (.var 0) (.lit (.int 3)))],
  .ite (.cmp .eq (.idx (.var 0) (.lit (.int 2))) (.glo g_ONE))
    [.ret (.ite (.cmp .le (.var 2) (.var 5)) (.call c_body_stand [(.val, (.var 1)), (.val, (.var 2))]) (.lit .non))]
    [],
  .asg (.name 3) (.ite (.cmp .eq (.idx (.var 0) (.lit (.int 2))) (.glo g_HIGH)) (.bin .mul (.var 2) (.var 4)) (.var 2)),
  .ret (.ite (.cmp .le (.var 3) (.var 5)) (.tup [(.val, (.lit (.str "second"))), (.val, (.var 1)), (.val, (.var 2))]) (.lit .non))]
def f_behind_second : FD where
  m := 5
  body := [.asg (.name 4) (.ite (.cmp .eq (.idx (.var 0) (.lit (.int 2))) (.glo g_HIGH)) (.bin .add (.bin .mul (.var 2) (.idx (.var 0) (.lit (.int 0)))) (.var 3)) (.bin .add (.bin .mul (.var 3) (.idx (.var 0) (.lit (.int 0)))) (.var 2))),
  .ret (.ite (.cmp .le (.var 4) (.idx (.var 0) (.lit (.int 3)))) (.call c_body_stand [(.val, (.var 1)), (.val, (.var 4))]) (.lit .non))]
def f_behind_body : FD where
  m := 6
  body := [.asg (.tup [(.name 3), (.name 4), (.name 5)]) (.slc (.var 1) (some (.lit (.int 1))) none),
  .ite (.cmp .eq (.var 3) (.glo g_CHECK))
    [.asg (.name 5) (.bin .mod (.bi .int [(.ref, (.bin .add (.var 5) (.var 2)))]) (.idx (.var 0) (.lit (.int 0))))]
    [],
  .ite (.cmp .gt (.var 4) (.lit (.int 1)))
    [.ret (.tup [(.val, (.lit (.str "body"))), (.val, (.var 3)), (.val, (.bin .sub (.var 4) (.lit (.int 1)))), (.val, (.var 5))])]
    [],
  .ret (.ite (.cmp .eq (.var 3) (.glo g_CHECK)) (.tup [(.val, (.lit (.str "sum"))), (.val, (.var 5))]) (.glo g_TAG))]
def f_behind_head : FD where
  m := 4
  body := [.asg (.name 3) (.idx (.idx (.var 0) (.lit (.int 1))) (.var 1)),
  .ite (.ands [(.cmp .isnot (.var 3) (.lit .non)), (.cmp .ne (.var 3) (.var 2))])
    [.ret (.lit .non)]
    [],
  .ret (.ite (.cmp .lt (.bin .add (.var 1) (.lit (.int 1))) (.bi .len [(.ref, (.idx (.var 0) (.lit (.int 1))))])) (.tup [(.val, (.lit (.str "head"))), (.val, (.bin .add (.var 1) (.lit (.int 1))))]) (.glo g_TAG))]
def f_behind_tag : FD where
  m := 3
  body := [.asg (.name 2) (.call c_use_at [(.val, (.var 0)), (.val, (.var 1))]),
  .ite (.cmp .is (.var 2) (.lit .non))
    [.ret (.lit .non)]
    [],
  .ite (.cmp .eq (.var 2) (.glo g_END))
    [.ret (.glo g_ROOM)]
    [],
  .ret (.ite (.cmp .eq (.var 2) (.glo g_STOP)) (.glo g_OVER) (.tup [(.val, (.lit (.str "length"))), (.val, (.var 2))]))]
def f_step : FD where
  m := 4
  body := [.asg (.name 3) (.idx (.var 1) (.lit (.int 0))),
  .ite (.cmp .eq (.var 3) (.lit (.str "head")))
    [.ret (.call c_behind_head [(.val, (.var 0)), (.val, (.idx (.var 1) (.lit (.int 1)))), (.val, (.var 2))])]
    [],
  .ite (.cmp .eq (.var 3) (.lit (.str "tag")))
    [.ret (.call c_behind_tag [(.val, (.var 0)), (.val, (.var 2))])]
    [],
  .ite (.cmp .eq (.var 3) (.lit (.str "length")))
    [.ret (.call c_behind_length [(.val, (.var 0)), (.val, (.idx (.var 1) (.lit (.int 1)))), (.val, (.var 2))])]
    [],
  .ite (.cmp .eq (.var 3) (.lit (.str "second")))
    [.ret (.call c_behind_second [(.val, (.var 0)), (.val, (.idx (.var 1) (.lit (.int 1)))), (.val, (.idx (.var 1) (.lit (.int 2)))), (.val, (.var 2))])]
    [],
  .ite (.cmp .eq (.var 3) (.lit (.str "body")))
    [.ret (.call c_behind_body [(.val, (.var 0)), (.val, (.var 1)), (.val, (.var 2))])]
    [],
  .ite (.cmp .eq (.var 3) (.lit (.str "sum")))
    [.ret (.ite (.cmp .eq (.var 2) (.idx (.var 1) (.lit (.int 1)))) (.glo g_TAG) (.lit .non))]
    [],
  .ret (.ite (.cmp .eq (.var 3) (.lit (.str "room"))) (.glo g_ROOM) (.lit .non))]
def f_is_ending : FD where
  m := 4
  body := [.ite (.cmp .isin (.var 1) (.tup [(.val, (.glo g_ROOM)), (.val, (.glo g_OVER))]))
    [.ret (.lit (.bl true))]
    [],
  .ret (.ands [(.cmp .eq (.var 1) (.glo g_TAG)), (.not (.bi .any [(.ref, (.comp (.cmp .isin (.var 3) (.tup [(.val, (.glo g_END)), (.val, (.glo g_STOP))])) [2, 3] (.tup [(.name 2), (.name 3)]) (.ex (.idx (.var 0) (.lit (.int 4)))) []))]))])]
def f_is_looking : FD where
  m := 2
  body := [.ite (.cmp .eq (.idx (.var 1) (.lit (.int 0))) (.lit (.str "head")))
    [.ret (.cmp .isnot (.idx (.idx (.var 0) (.lit (.int 1))) (.idx (.var 1) (.lit (.int 1)))) (.lit .non))]
    [],
  .ret (.ands [(.cmp .ne (.var 1) (.glo g_ROOM)), (.not (.ands [(.cmp .eq (.idx (.var 1) (.lit (.int 0))) (.lit (.str "body"))), (.cmp .eq (.idx (.var 1) (.lit (.int 1))) (.glo g_SKIP))]))])]
def f_word_at : FD where
  m := 1
  body := [.ret (.tab 0 t_WORDS (.idx (.var 0) (.lit (.int 0))))]
def f_refusal_of : FD where
  m := 6
  body := [.asg (.name 2) (.call c_first_stand [(.val, (.var 0))]),
  .for_ (.tup [(.name 3), (.name 4)]) (.enum (.var 1))
    [.asg (.name 5) (.call c_step [(.val, (.var 0)), (.val, (.var 2)), (.val, (.var 4))]),
     .ite (.cmp .is (.var 5) (.lit .non))
       [.ret (.tup [(.val, (.var 3)), (.val, (.call c_word_at [(.val, (.var 2))]))])]
       [],
     .asg (.name 2) (.var 5)],
  .ret (.ite (.call c_is_ending [(.val, (.var 0)), (.val, (.var 2))]) (.lit .non) (.tup [(.val, (.bi .len [(.ref, (.var 1))])), (.val, (.glo g_SHORT))]))]
def f_told_at : FD where
  m := 7
  body := [.ite (.ands [(.cmp .eq (.var 1) (.glo g_TAG)), (.cmp .isin (.call c_use_at [(.val, (.var 0)), (.val, (.var 2))]) (.glo g_TOLD))])
    [.ret (.tup [(.star, (.var 3)), (.val, (.tup [(.val, (.var 2)), (.val, (.tup []))]))])]
    [],
  .ite (.ands [(.cmp .eq (.idx (.var 1) (.lit (.int 0))) (.lit (.str "body"))), (.cmp .isin (.idx (.var 1) (.lit (.int 1))) (.glo g_TOLD))])
    [.star 4 [(.tup [(.name 5), (.name 6)])] (.var 3),
     .ret (.tup [(.star, (.var 4)), (.val, (.tup [(.val, (.var 5)), (.val, (.tup [(.star, (.var 6)), (.val, (.var 2))]))]))])]
    [],
  .ret (.var 3)]
def f_told_in : FD where
  m := 5
  body := [.par [3, 4] [(.call c_first_stand [(.val, (.var 0))]), (.tup [])],
  .for_ (.name 2) (.ex (.var 1))
    [.asg (.name 4) (.call c_told_at [(.val, (.var 0)), (.val, (.var 3)), (.val, (.var 2)), (.val, (.var 4))]),
     .asg (.name 3) (.call c_step [(.val, (.var 0)), (.val, (.var 3)), (.val, (.var 2))])],
  .ret (.var 4)]
def f_looked_in : FD where
  m := 6
  body := [.par [2, 3] [(.call c_first_stand [(.val, (.var 0))]), (.lst [])],
  .for_ (.tup [(.name 4), (.name 5)]) (.enum (.var 1))
    [.ite (.call c_is_looking [(.val, (.var 0)), (.val, (.var 2))])
       [.asg (.name 3) (.lst [(.star, (.var 3)), (.val, (.var 4))])]
       [],
     .asg (.name 2) (.call c_step [(.val, (.var 0)), (.val, (.var 2)), (.val, (.var 5))])],
  .ret (.take 3)]
def f_check_read : FD where
  m := 5
  body := [.asg (.name 2) (.call c_refusal_of [(.val, (.var 0)), (.val, (.var 1))]),
  .ite (.cmp .isnot (.var 2) (.lit .non))
    [.asg (.tup [(.name 3), (.name 4)]) (.var 2),
     .rais 0 [(.val, (.var 3)), (.val, (.var 4))]]
    []]
  ex := true
def f_read : FD where
  m := 2
  body := [.expr (.call c_check_format [(.val, (.var 0))]),
  .expr (.call c_check_file [(.val, (.var 0)), (.val, (.var 1))]),
  .expr (.call c_check_read [(.val, (.var 0)), (.val, (.var 1))]),
  .ret (.call c_told_in [(.val, (.var 0)), (.val, (.var 1))])]
  ex := true
def f_refusal : FD where
  m := 2
  body := [.expr (.call c_check_format [(.val, (.var 0))]),
  .expr (.call c_check_file [(.val, (.var 0)), (.val, (.var 1))]),
  .ret (.call c_refusal_of [(.val, (.var 0)), (.val, (.var 1))])]
def f_looked_at : FD where
  m := 2
  body := [.expr (.call c_check_format [(.val, (.var 0))]),
  .expr (.call c_check_file [(.val, (.var 0)), (.val, (.var 1))]),
  .expr (.call c_check_read [(.val, (.var 0)), (.val, (.var 1))]),
  .ret (.call c_looked_in [(.val, (.var 0)), (.val, (.var 1))])]
  ex := true
def f_law_bag : FD where
  m := 3
  body := [.asg (.name 2) (.ite (.cmp .lt (.var 1) (.bi .len [(.ref, (.var 0))])) (.idx (.var 0) (.var 1)) (.lit (.int 0))),
  .ret (.lst [(.val, (.bi .max [(.ref, (.lit (.int 0))), (.ref, (.bin .sub (.bi .abs [(.ref, (.var 2))]) (.bin .pow (.lit (.int 10)) (.lit (.int 18)))))])), (.val, (.bin .add (.bin .add (.bin .mul (.bin .mod (.bi .int [(.ref, (.var 2))]) (.bin .add (.bin .pow (.lit (.int 10)) (.lit (.int 37))) (.lit (.int 163)))) (.lit (.int 89))) (.bin .mul (.lit (.int 71)) (.var 1))) (.lit (.int 53)))), (.val, (.lit (.int 0)))])]
def f_law_grab : FD where
  m := 4
  body := [.ite (.cmp .gt (.idx (.var 0) (.lit (.int 0))) (.lit (.int 0)))
    [.asg (.name 3) (.bin .mod (.bi .int [(.ref, (.idx (.var 0) (.lit (.int 0))))]) (.var 1)),
     .setIdx 0 (.lit (.int 0)) (.bin .fdiv (.idx (.var 0) (.lit (.int 0))) (.var 1)),
     .ret (.var 3)]
    [],
  .setIdx 0 (.lit (.int 2)) (.bin .add (.idx (.var 0) (.lit (.int 2))) (.lit (.int 1))),
  .asg (.name 2) (.bin .mod (.bin .pow (.bi .int [(.ref, (.bin .add (.idx (.var 0) (.lit (.int 1))) (.bin .mul (.lit (.int 90019)) (.idx (.var 0) (.lit (.int 2))))))]) (.lit (.int 2))) (.bin .add (.bin .pow (.lit (.int 10)) (.lit (.int 38))) (.lit (.int 271)))),
  .asg (.name 2) (.bin .mod (.bin .pow (.bi .int [(.ref, (.bin .add (.var 2) (.bin .mul (.lit (.int 1900037)) (.idx (.var 0) (.lit (.int 2))))))]) (.lit (.int 3))) (.bin .add (.bin .pow (.lit (.int 10)) (.lit (.int 39))) (.lit (.int 331)))),
  .ret (.bin .mod (.bin .fdiv (.var 2) (.lit (.int 8192))) (.var 1))]
def f_law_equal : FD where
  m := 3
  body := [.ite (.ors [(.isi (.var 0) [.bool]), (.isi (.var 1) [.bool])])
    [.ret (.ands [(.isi (.var 0) [.bool]), (.isi (.var 1) [.bool]), (.cmp .eq (.var 0) (.var 1))])]
    [],
  .ite (.ors [(.cmp .ne (.isi (.var 0) [.list]) (.isi (.var 1) [.list])), (.cmp .ne (.isi (.var 0) [.tuple]) (.isi (.var 1) [.tuple]))])
    [.ret (.lit (.bl false))]
    [],
  .ite (.ors [(.cmp .ne (.isi (.var 0) [.str]) (.isi (.var 1) [.str])), (.cmp .ne (.isi (.var 0) [.int]) (.isi (.var 1) [.int]))])
    [.ret (.lit (.bl false))]
    [],
  .ite (.isi (.var 1) [.list, .tuple])
    [.ite (.cmp .ne (.bi .len [(.ref, (.var 0))]) (.bi .len [(.ref, (.var 1))]))
       [.ret (.lit (.bl false))]
       [],
     .ret (.cmp .eq (.comp (.var 2) [2] (.name 2) (.range [(.val, (.bi .len [(.ref, (.var 1))]))]) [(.not (.call c_law_equal [(.val, (.idx (.var 0) (.var 2))), (.val, (.idx (.var 1) (.var 2)))]))]) (.lst []))]
    [],
  .ret (.ands [(.cmp .eq (.cmp .is (.var 0) (.lit .non)) (.cmp .is (.var 1) (.lit .non))), (.cmp .eq (.var 0) (.var 1))])]
def f_law_use : FD where
  m := 3
  body := [.for_ (.name 2) (.ex (.idx (.var 0) (.lit (.int 4))))
    [.ite (.cmp .eq (.idx (.var 2) (.lit (.int 0))) (.var 1))
       [.ret (.idx (.var 2) (.lit (.int 1)))]
       []],
  .ret (.ite (.cmp .eq (.idx (.var 0) (.lit (.int 5))) (.lit (.str "skip"))) (.lit (.str "skip")) (.lit (.str "")))]
def f_law_long : FD where
  m := 9
  body := [.par [6, 7, 8] [(.idx (.var 0) (.lit (.int 0))), (.idx (.var 0) (.lit (.int 2))), (.idx (.var 0) (.lit (.int 3)))],
  .ite (.cmp .ge (.var 2) (.bi .len [(.ref, (.var 1))]))
    [.ret (.tup [(.val, (.lit .non)), (.val, (.tup [(.val, (.bi .len [(.ref, (.var 1))])), (.val, (.lit (.str "short")))]))])]
    [],
  .asg (.name 3) (.idx (.var 1) (.var 2)),
  .ite (.cmp .eq (.var 7) (.lit (.str "one")))
    [.ret (.ite (.cmp .le (.var 3) (.var 8)) (.tup [(.val, (.var 3)), (.val, (.bin .add (.var 2) (.lit (.int 1))))]) (.tup [(.val, (.lit .non)), (.val, (.tup [(.val, (.var 2)), (.val, (.lit (.str "length")))]))]))]
    [],
  .ite (.cmp .gt (.ite (.cmp .eq (.var 7) (.lit (.str "high"))) (.bin .mul (.var 3) (.var 6)) (.var 3)) (.var 8))
    [.ret (.tup [(.val, (.lit .non)), (.val, (.tup [(.val, (.var 2)), (.val, (.lit (.str "length")))]))])]
    [],
  .ite (.cmp .ge (.bin .add (.var 2) (.lit (.int 1))) (.bi .len [(.ref, (.var 1))]))
    [.ret (.tup [(.val, (.lit .non)), (.val, (.tup [(.val, (.bi .len [(.ref, (.var 1))])), (.val, (.lit (.str "short")))]))])]
    [],
  .asg (.name 4) (.idx (.var 1) (.bin .add (.var 2) (.lit (.int 1)))),
  .asg (.name 5) (.ite (.cmp .eq (.var 7) (.lit (.str "high"))) (.bin .add (.bin .mul (.var 3) (.var 6)) (.var 4)) (.bin .add (.bin .mul (.var 4) (.var 6)) (.var 3))),
  .ret (.ite (.cmp .le (.var 5) (.var 8)) (.tup [(.val, (.var 5)), (.val, (.bin .add (.var 2) (.lit (.int 2))))]) (.tup [(.val, (.lit .non)), (.val, (.tup [(.val, (.bin .add (.var 2) (.lit (.int 1)))), (.val, (.lit (.str "length")))]))]))]
def f_law_chunk : FD where
  m := 7
  body := [.asg (.tup [(.name 6), (.name 2)]) (.call c_law_long [(.val, (.var 0)), (.val, (.var 1)), (.val, (.var 2))]),
  .ite (.cmp .is (.var 6) (.lit .non))
    [.ret (.tup [(.val, (.lit .non)), (.val, (.var 2))])]
    [],
  .ite (.cmp .gt (.bin .add (.var 2) (.var 6)) (.bi .len [(.ref, (.var 1))]))
    [.ret (.tup [(.val, (.lit .non)), (.val, (.tup [(.val, (.bi .len [(.ref, (.var 1))])), (.val, (.lit (.str "short")))]))])]
    [],
  .asg (.name 4) (.slc (.var 1) (some (.var 2)) (some (.bin .add (.var 2) (.var 6)))),
  .asg (.name 2) (.bin .add (.var 2) (.var 6)),
  .ite (.cmp .ne (.var 3) (.lit (.str "check")))
    [.ret (.tup [(.val, (.var 4)), (.val, (.var 2))])]
    [],
  .ite (.cmp .ge (.var 2) (.bi .len [(.ref, (.var 1))]))
    [.ret (.tup [(.val, (.lit .non)), (.val, (.tup [(.val, (.bi .len [(.ref, (.var 1))])), (.val, (.lit (.str "short")))]))])]
    [],
  .asg (.name 5) (.cmp .eq (.idx (.var 1) (.var 2)) (.bin .mod (.bi .int [(.ref, (.bi .sum [(.ref, (.var 4))]))]) (.idx (.var 0) (.lit (.int 0))))),
  .ret (.ite (.var 5) (.tup [(.val, (.var 4)), (.val, (.bin .add (.var 2) (.lit (.int 1))))]) (.tup [(.val, (.lit .non)), (.val, (.tup [(.val, (.var 2)), (.val, (.lit (.str "check")))]))]))]
def f_law_reading : FD where
  m := 11
  body := [.par [4, 5] [(.lst []), (.lst [])],
  .for_ (.name 2) (.range [(.val, (.bi .len [(.ref, (.idx (.var 0) (.lit (.int 1))))]))])
    [.ite (.cmp .ge (.var 2) (.bi .len [(.ref, (.var 1))]))
       [.ret (.tup [(.val, (.lit .non)), (.val, (.lit .non)), (.val, (.tup [(.val, (.bi .len [(.ref, (.var 1))])), (.val, (.lit (.str "short")))]))])]
       [],
     .ite (.cmp .is (.idx (.idx (.var 0) (.lit (.int 1))) (.var 2)) (.lit .non))
       [.app 5 (.var 2)]
       [.ite (.cmp .ne (.idx (.idx (.var 0) (.lit (.int 1))) (.var 2)) (.idx (.var 1) (.var 2)))
          [.ret (.tup [(.val, (.lit .non)), (.val, (.lit .non)), (.val, (.tup [(.val, (.var 2)), (.val, (.lit (.str "head")))]))])]
          []]],
  .asg (.name 3) (.bi .len [(.ref, (.idx (.var 0) (.lit (.int 1))))]),
  .while_ (.cmp .lt (.var 3) (.bi .len [(.ref, (.var 1))]))
    [.asg (.name 6) (.call c_law_use [(.val, (.var 0)), (.val, (.idx (.var 1) (.var 3)))]),
     .ite (.cmp .eq (.var 6) (.lit (.str "")))
       [.ret (.tup [(.val, (.lit .non)), (.val, (.lit .non)), (.val, (.tup [(.val, (.var 3)), (.val, (.lit (.str "tag")))]))])]
       [],
     .ite (.cmp .eq (.var 6) (.lit (.str "end")))
       [.ret (.tup [(.val, (.bi .tuple [(.ref, (.var 4))])), (.val, (.bin .add (.var 5) (.rng2 false (.bin .add (.var 3) (.lit (.int 1))) (.bi .len [(.ref, (.var 1))])))), (.val, (.lit .non))])]
       [],
     .ite (.cmp .eq (.var 6) (.lit (.str "stop")))
       [.asg (.name 7) (.cmp .eq (.bin .add (.var 3) (.lit (.int 1))) (.bi .len [(.ref, (.var 1))])),
        .ret (.ite (.var 7) (.tup [(.val, (.bi .tuple [(.ref, (.var 4))])), (.val, (.var 5)), (.val, (.lit .non))]) (.tup [(.val, (.lit .non)), (.val, (.lit .non)), (.val, (.tup [(.val, (.bin .add (.var 3) (.lit (.int 1)))), (.val, (.lit (.str "behind")))]))]))]
       [],
     .asg (.tup [(.name 8), (.name 9)]) (.call c_law_chunk [(.val, (.var 0)), (.val, (.var 1)), (.val, (.bin .add (.var 3) (.lit (.int 1)))), (.val, (.var 6))]),
     .ite (.cmp .is (.var 8) (.lit .non))
       [.ret (.tup [(.val, (.lit .non)), (.val, (.lit .non)), (.val, (.var 9))])]
       [],
     .ite (.cmp .eq (.var 6) (.lit (.str "skip")))
       [.asg (.name 5) (.bin .add (.var 5) (.rng2 false (.bin .sub (.var 9) (.bi .len [(.ref, (.var 8))])) (.var 9)))]
       [.app 4 (.tup [(.val, (.idx (.var 1) (.var 3))), (.val, (.var 8))])],
     .asg (.name 3) (.var 9)],
  .ite (.cmp .ne (.comp (.var 10) [10] (.name 10) (.ex (.idx (.var 0) (.lit (.int 4)))) [(.cmp .isin (.idx (.var 10) (.lit (.int 1))) (.tup [(.val, (.lit (.str "end"))), (.val, (.lit (.str "stop")))]))]) (.lst []))
    [.ret (.tup [(.val, (.lit .non)), (.val, (.lit .non)), (.val, (.tup [(.val, (.bi .len [(.ref, (.var 1))])), (.val, (.lit (.str "short")))]))])]
    [],
  .ret (.tup [(.val, (.bi .tuple [(.ref, (.var 4))])), (.val, (.var 5)), (.val, (.lit .non))])]
def f_law_long_file : FD where
  m := 11
  body := [.par [8, 9] [(.idx (.var 1) (.lit (.int 0))), (.bin .add (.lit (.int 10)) (.call c_law_grab [(.ref, (.var 0)), (.val, (.lit (.int 140)))]))],
  .asg (.name 3) (.comp (.call c_law_grab [(.ref, (.var 0)), (.val, (.var 8))]) [10] (.name 10) (.range [(.val, (.var 9))]) []),
  .asg (.name 4) (.idx (.var 1) (.lit (.int 3))),
  .asg (.name 5) (.idx (.lst [(.val, (.var 9)), (.val, (.var 9)), (.val, (.var 4)), (.val, (.bin .add (.var 4) (.lit (.int 1)))), (.val, (.bin .add (.var 4) (.var 8))), (.val, (.call c_law_grab [(.ref, (.var 0)), (.val, (.bin .mul (.var 8) (.var 8)))]))]) (.call c_law_grab [(.ref, (.var 0)), (.val, (.lit (.int 6)))])),
  .asg (.name 5) (.bi .min [(.ref, (.var 5)), (.ref, (.bin .sub (.bin .mul (.var 8) (.var 8)) (.lit (.int 1))))]),
  .asg (.name 6) (.ite (.cmp .eq (.idx (.var 1) (.lit (.int 2))) (.lit (.str "high"))) (.lst [(.val, (.bin .fdiv (.var 5) (.var 8))), (.val, (.bin .mod (.bi .int [(.ref, (.var 5))]) (.var 8)))]) (.lst [(.val, (.bin .mod (.bi .int [(.ref, (.var 5))]) (.var 8))), (.val, (.bin .fdiv (.var 5) (.var 8)))])),
  .asg (.name 7) (.bin .add (.bin .add (.lst [(.val, (.lit (.int 1)))]) (.var 6)) (.var 3)),
  .ite (.cmp .eq (.var 2) (.lit (.str "check")))
    [.app 7 (.bin .mod (.bi .int [(.ref, (.bin .add (.bi .sum [(.ref, (.var 3))]) (.bi .int [(.ref, (.cmp .eq (.call c_law_grab [(.ref, (.var 0)), (.val, (.lit (.int 4)))]) (.lit (.int 0))))])))]) (.var 8))]
    [],
  .ret (.bi .tuple [(.ref, (.bin .add (.var 7) (.rep (.lst [(.val, (.lit (.int 0)))]) (.call c_law_grab [(.ref, (.var 0)), (.val, (.lit (.int 3)))]))))])]
def f_law_told : FD where
  m := 4
  body := [.asg (.name 2) (.lit .non),
  .tryE [.asg (.name 2) (.lst [(.val, (.call c_read [(.val, (.var 0)), (.val, (.var 1))])), (.val, (.call c_looked_at [(.val, (.var 0)), (.val, (.var 1))]))])] 0 3 2 (.tup [(.fld 0), (.fld 1)]),
  .ret (.var 2)]
def f_law : FD where
  m := 16
  body := [.for_ (.name 1) (.range [(.val, (.bi .max [(.ref, (.lit (.int 1))), (.ref, (.bi .min [(.ref, (.lit (.int 6))), (.ref, (.bi .len [(.ref, (.var 0))]))]))]))])
    [.asg (.name 3) (.call c_law_bag [(.val, (.var 0)), (.val, (.var 1))]),
     .for_ (.name 4) (.ex (.tup [(.val, (.lit (.str "keep"))), (.val, (.lit (.str "check"))), (.val, (.lit (.str "skip")))]))
       [.asg (.name 5) (.idx (.lst [(.val, (.lit (.int 2))), (.val, (.lit (.int 16))), (.val, (.lit (.int 255))), (.val, (.lit (.int 256)))]) (.call c_law_grab [(.ref, (.var 3)), (.val, (.lit (.int 4)))])),
        .asg (.name 6) (.idx (.lst [(.val, (.bin .add (.lit (.int 9)) (.call c_law_grab [(.ref, (.var 3)), (.val, (.lit (.int 150)))]))), (.val, (.bin .sub (.bin .mul (.var 5) (.var 5)) (.lit (.int 1)))), (.val, (.lit (.int 65535))), (.val, (.call c_law_grab [(.ref, (.var 3)), (.val, (.bin .mul (.var 5) (.var 5)))]))]) (.call c_law_grab [(.ref, (.var 3)), (.val, (.lit (.int 4)))])),
        .asg (.name 7) (.idx (.lst [(.val, (.tup [])), (.val, (.tup [(.val, (.tup [(.val, (.lit (.int 0))), (.val, (.lit (.str "stop")))]))])), (.val, (.tup [(.val, (.tup [(.val, (.lit (.int 0))), (.val, (.lit (.str "end")))]))]))]) (.call c_law_grab [(.ref, (.var 3)), (.val, (.lit (.int 3)))])),
        .asg (.name 8) (.tup [(.val, (.var 5)), (.val, (.tup [])), (.val, (.idx (.lst [(.val, (.lit (.str "high"))), (.val, (.lit (.str "low")))]) (.call c_law_grab [(.ref, (.var 3)), (.val, (.lit (.int 2)))]))), (.val, (.var 6)), (.val, (.bin .add (.var 7) (.tup [(.val, (.tup [(.val, (.lit (.int 1))), (.val, (.var 4))]))]))), (.val, (.lit (.str "refuse")))]),
        .for_ (.name 9) (.range [(.val, (.lit (.int 5)))])
          [.asg (.name 10) (.call c_law_long_file [(.ref, (.var 3)), (.val, (.var 8)), (.val, (.var 4))]),
           .asg (.tup [(.name 12), (.name 13), (.name 14)]) (.call c_law_reading [(.val, (.var 8)), (.val, (.var 10))]),
           .asg (.name 11) (.var 14),
           .ite (.cmp .is (.var 14) (.lit .non))
             [.asg (.name 11) (.lst [(.val, (.var 12)), (.val, (.comp (.var 15) [15] (.name 15) (.range [(.val, (.bi .len [(.ref, (.var 10))]))]) [(.cmp .notin (.var 15) (.var 13))]))])]
             [],
           .ite (.not (.call c_law_equal [(.val, (.lst [(.val, (.call c_refusal [(.val, (.var 8)), (.val, (.var 10))])), (.val, (.call c_law_told [(.val, (.var 8)), (.val, (.var 10))]))])), (.val, (.lst [(.val, (.var 14)), (.val, (.var 11))]))]))
             [.ret (.lit (.bl false))]
             []]]],
  .asg (.name 2) (.tup [(.val, (.lit (.int 256))), (.val, (.tup [])), (.val, (.lit (.str "low"))), (.val, (.lit (.int 65535))), (.val, (.tup [(.val, (.tup [(.val, (.lit (.int 1))), (.val, (.lit (.str "keep")))]))])), (.val, (.lit (.str "refuse")))]),
  .ret (.ands [(.cmp .eq (.call c_refusal [(.val, (.var 2)), (.val, (.tup [(.val, (.lit (.int 1))), (.val, (.lit (.int 255))), (.val, (.lit (.int 255))), (.val, (.lit (.int 0)))]))]) (.tup [(.val, (.lit (.int 4))), (.val, (.lit (.str "short")))])), (.cmp .eq (.call c_read [(.val, (.var 2)), (.val, (.tup [(.val, (.lit (.int 1))), (.val, (.lit (.int 2))), (.val, (.lit (.int 0))), (.val, (.lit (.int 7))), (.val, (.lit (.int 8)))]))]) (.tup [(.val, (.tup [(.val, (.lit (.int 1))), (.val, (.tup [(.val, (.lit (.int 7))), (.val, (.lit (.int 8)))]))]))]))])]
def F : List FD := [f_is_integer, f_is_at_least, f_is_sign, f_is_signs, f_is_word_of, f_is_tags, f_is_head, f_is_format, f_is_file_of, f_check_format, f_check_file, f_first_stand, f_use_at, f_body_stand, f_behind_length, f_behind_second, f_behind_body, f_behind_head, f_behind_tag, f_step, f_is_ending, f_is_looking, f_word_at, f_refusal_of, f_told_at, f_told_in, f_looked_in, f_check_read, f_read, f_refusal, f_looked_at, f_law_bag, f_law_grab, f_law_equal, f_law_use, f_law_long, f_law_chunk, f_law_reading, f_law_long_file, f_law_told, f_law]
def G : List PV := [(.tup [(.str "keep"), (.str "check"), (.str "skip"), (.str "end"), (.str "stop")]), (.int 256), (.tup [(.str "one"), (.str "high"), (.str "low")]), (.tup [(.str "skip"), (.str "refuse")]), (.tup [(.str "tag")]), (.str "skip"), (.str "check"), (.str "one"), (.str "high"), (.str "end"), (.tup [(.str "room")]), (.str "stop"), (.tup [(.str "over")]), (.str "short"), (.tup [(.str "keep"), (.str "check")])]
theorem u_is_integer (k : Nat) (args : List (Bool × PV)) : evCl G F (k + 1) c_is_integer args = evFn G (evCl G F k) f_is_integer args := rfl
theorem u_is_at_least (k : Nat) (args : List (Bool × PV)) : evCl G F (k + 1) c_is_at_least args = evFn G (evCl G F k) f_is_at_least args := rfl
theorem u_is_sign (k : Nat) (args : List (Bool × PV)) : evCl G F (k + 1) c_is_sign args = evFn G (evCl G F k) f_is_sign args := rfl
theorem u_is_signs (k : Nat) (args : List (Bool × PV)) : evCl G F (k + 1) c_is_signs args = evFn G (evCl G F k) f_is_signs args := rfl
theorem u_is_word_of (k : Nat) (args : List (Bool × PV)) : evCl G F (k + 1) c_is_word_of args = evFn G (evCl G F k) f_is_word_of args := rfl
theorem u_is_tags (k : Nat) (args : List (Bool × PV)) : evCl G F (k + 1) c_is_tags args = evFn G (evCl G F k) f_is_tags args := rfl
theorem u_is_head (k : Nat) (args : List (Bool × PV)) : evCl G F (k + 1) c_is_head args = evFn G (evCl G F k) f_is_head args := rfl
theorem u_is_format (k : Nat) (args : List (Bool × PV)) : evCl G F (k + 1) c_is_format args = evFn G (evCl G F k) f_is_format args := rfl
theorem u_is_file_of (k : Nat) (args : List (Bool × PV)) : evCl G F (k + 1) c_is_file_of args = evFn G (evCl G F k) f_is_file_of args := rfl
theorem u_check_format (k : Nat) (args : List (Bool × PV)) : evCl G F (k + 1) c_check_format args = evFn G (evCl G F k) f_check_format args := rfl
theorem u_check_file (k : Nat) (args : List (Bool × PV)) : evCl G F (k + 1) c_check_file args = evFn G (evCl G F k) f_check_file args := rfl
theorem u_first_stand (k : Nat) (args : List (Bool × PV)) : evCl G F (k + 1) c_first_stand args = evFn G (evCl G F k) f_first_stand args := rfl
theorem u_use_at (k : Nat) (args : List (Bool × PV)) : evCl G F (k + 1) c_use_at args = evFn G (evCl G F k) f_use_at args := rfl
theorem u_body_stand (k : Nat) (args : List (Bool × PV)) : evCl G F (k + 1) c_body_stand args = evFn G (evCl G F k) f_body_stand args := rfl
theorem u_behind_length (k : Nat) (args : List (Bool × PV)) : evCl G F (k + 1) c_behind_length args = evFn G (evCl G F k) f_behind_length args := rfl
theorem u_behind_second (k : Nat) (args : List (Bool × PV)) : evCl G F (k + 1) c_behind_second args = evFn G (evCl G F k) f_behind_second args := rfl
theorem u_behind_body (k : Nat) (args : List (Bool × PV)) : evCl G F (k + 1) c_behind_body args = evFn G (evCl G F k) f_behind_body args := rfl
theorem u_behind_head (k : Nat) (args : List (Bool × PV)) : evCl G F (k + 1) c_behind_head args = evFn G (evCl G F k) f_behind_head args := rfl
theorem u_behind_tag (k : Nat) (args : List (Bool × PV)) : evCl G F (k + 1) c_behind_tag args = evFn G (evCl G F k) f_behind_tag args := rfl
theorem u_step (k : Nat) (args : List (Bool × PV)) : evCl G F (k + 1) c_step args = evFn G (evCl G F k) f_step args := rfl
theorem u_is_ending (k : Nat) (args : List (Bool × PV)) : evCl G F (k + 1) c_is_ending args = evFn G (evCl G F k) f_is_ending args := rfl
theorem u_is_looking (k : Nat) (args : List (Bool × PV)) : evCl G F (k + 1) c_is_looking args = evFn G (evCl G F k) f_is_looking args := rfl
theorem u_word_at (k : Nat) (args : List (Bool × PV)) : evCl G F (k + 1) c_word_at args = evFn G (evCl G F k) f_word_at args := rfl
theorem u_refusal_of (k : Nat) (args : List (Bool × PV)) : evCl G F (k + 1) c_refusal_of args = evFn G (evCl G F k) f_refusal_of args := rfl
theorem u_told_at (k : Nat) (args : List (Bool × PV)) : evCl G F (k + 1) c_told_at args = evFn G (evCl G F k) f_told_at args := rfl
theorem u_told_in (k : Nat) (args : List (Bool × PV)) : evCl G F (k + 1) c_told_in args = evFn G (evCl G F k) f_told_in args := rfl
theorem u_looked_in (k : Nat) (args : List (Bool × PV)) : evCl G F (k + 1) c_looked_in args = evFn G (evCl G F k) f_looked_in args := rfl
theorem u_check_read (k : Nat) (args : List (Bool × PV)) : evCl G F (k + 1) c_check_read args = evFn G (evCl G F k) f_check_read args := rfl
theorem u_read (k : Nat) (args : List (Bool × PV)) : evCl G F (k + 1) c_read args = evFn G (evCl G F k) f_read args := rfl
theorem u_refusal (k : Nat) (args : List (Bool × PV)) : evCl G F (k + 1) c_refusal args = evFn G (evCl G F k) f_refusal args := rfl
theorem u_looked_at (k : Nat) (args : List (Bool × PV)) : evCl G F (k + 1) c_looked_at args = evFn G (evCl G F k) f_looked_at args := rfl
theorem u_law_bag (k : Nat) (args : List (Bool × PV)) : evCl G F (k + 1) c_law_bag args = evFn G (evCl G F k) f_law_bag args := rfl
theorem u_law_grab (k : Nat) (args : List (Bool × PV)) : evCl G F (k + 1) c_law_grab args = evFn G (evCl G F k) f_law_grab args := rfl
theorem u_law_equal (k : Nat) (args : List (Bool × PV)) : evCl G F (k + 1) c_law_equal args = evFn G (evCl G F k) f_law_equal args := rfl
theorem u_law_use (k : Nat) (args : List (Bool × PV)) : evCl G F (k + 1) c_law_use args = evFn G (evCl G F k) f_law_use args := rfl
theorem u_law_long (k : Nat) (args : List (Bool × PV)) : evCl G F (k + 1) c_law_long args = evFn G (evCl G F k) f_law_long args := rfl
theorem u_law_chunk (k : Nat) (args : List (Bool × PV)) : evCl G F (k + 1) c_law_chunk args = evFn G (evCl G F k) f_law_chunk args := rfl
theorem u_law_reading (k : Nat) (args : List (Bool × PV)) : evCl G F (k + 1) c_law_reading args = evFn G (evCl G F k) f_law_reading args := rfl
theorem u_law_long_file (k : Nat) (args : List (Bool × PV)) : evCl G F (k + 1) c_law_long_file args = evFn G (evCl G F k) f_law_long_file args := rfl
theorem u_law_told (k : Nat) (args : List (Bool × PV)) : evCl G F (k + 1) c_law_told args = evFn G (evCl G F k) f_law_told args := rfl
theorem u_law (k : Nat) (args : List (Bool × PV)) : evCl G F (k + 1) c_law args = evFn G (evCl G F k) f_law args := rfl
theorem ux_check_read (k : Nat) (args : List (Bool × PV)) : evCl G F (k + 1) (c_check_read + XOFF) args = exFn G (evCl G F k) f_check_read args := rfl
theorem ux_read (k : Nat) (args : List (Bool × PV)) : evCl G F (k + 1) (c_read + XOFF) args = exFn G (evCl G F k) f_read args := rfl
theorem ux_looked_at (k : Nat) (args : List (Bool × PV)) : evCl G F (k + 1) (c_looked_at + XOFF) args = exFn G (evCl G F k) f_looked_at args := rfl
theorem v_USES : G[g_USES]? = some (.tup [(.str "keep"), (.str "check"), (.str "skip"), (.str "end"), (.str "stop")]) := rfl
theorem v_GREATEST_BASE : G[g_GREATEST_BASE]? = some (.int 256) := rfl
theorem v_WIDTHS : G[g_WIDTHS]? = some (.tup [(.str "one"), (.str "high"), (.str "low")]) := rfl
theorem v_OTHERS : G[g_OTHERS]? = some (.tup [(.str "skip"), (.str "refuse")]) := rfl
theorem v_TAG : G[g_TAG]? = some (.tup [(.str "tag")]) := rfl
theorem v_SKIP : G[g_SKIP]? = some (.str "skip") := rfl
theorem v_CHECK : G[g_CHECK]? = some (.str "check") := rfl
theorem v_ONE : G[g_ONE]? = some (.str "one") := rfl
theorem v_HIGH : G[g_HIGH]? = some (.str "high") := rfl
theorem v_END : G[g_END]? = some (.str "end") := rfl
theorem v_ROOM : G[g_ROOM]? = some (.tup [(.str "room")]) := rfl
theorem v_STOP : G[g_STOP]? = some (.str "stop") := rfl
theorem v_OVER : G[g_OVER]? = some (.tup [(.str "over")]) := rfl
theorem v_SHORT : G[g_SHORT]? = some (.str "short") := rfl
theorem v_TOLD : G[g_TOLD]? = some (.tup [(.str "keep"), (.str "check")]) := rfl
end EV.Law
set_option Elab.async false
set_option linter.all false
set_option maxRecDepth 100000
set_option maxHeartbeats 0
namespace EV.Law
open PySem PySem.Spec PyProof.Rows L2 EV
def top (i : Nat) : Stmt := PySem.Challenge.pw_bothreaders_k13_long_bodies_and_lengths.main.body.getD i (.Pass ⟨0, 0, 0, 0⟩)
def n_is_integer : Str × List Str := ("is_integer", ["value"])
def n_is_at_least : Str × List Str := ("is_at_least", ["value", "least"])
def n_is_sign : Str × List Str := ("is_sign", ["base", "value"])
def n_is_signs : Str × List Str := ("is_signs", ["base", "value"])
def n_is_word_of : Str × List Str := ("is_word_of", ["value", "words"])
def n_is_tags : Str × List Str := ("is_tags", ["base", "value"])
def n_is_head : Str × List Str := ("is_head", ["base", "value"])
def n_is_format : Str × List Str := ("is_format", ["value"])
def n_is_file_of : Str × List Str := ("is_file_of", ["form", "value"])
def n_check_format : Str × List Str := ("check_format", ["form"])
def n_check_file : Str × List Str := ("check_file", ["form", "file"])
def n_first_stand : Str × List Str := ("first_stand", ["form"])
def n_use_at : Str × List Str := ("use_at", ["form", "sign"])
def n_body_stand : Str × List Str := ("body_stand", ["use", "length"])
def n_behind_length : Str × List Str := ("behind_length", ["form", "use", "sign"])
def n_behind_second : Str × List Str := ("behind_second", ["form", "use", "first", "sign"])
def n_behind_body : Str × List Str := ("behind_body", ["form", "stand", "sign"])
def n_behind_head : Str × List Str := ("behind_head", ["form", "place", "sign"])
def n_behind_tag : Str × List Str := ("behind_tag", ["form", "sign"])
def n_step : Str × List Str := ("step", ["form", "stand", "sign"])
def n_is_ending : Str × List Str := ("is_ending", ["form", "stand"])
def n_is_looking : Str × List Str := ("is_looking", ["form", "stand"])
def n_word_at : Str × List Str := ("word_at", ["stand"])
def n_refusal_of : Str × List Str := ("refusal_of", ["form", "file"])
def n_told_at : Str × List Str := ("told_at", ["form", "stand", "sign", "told"])
def n_told_in : Str × List Str := ("told_in", ["form", "signs"])
def n_looked_in : Str × List Str := ("looked_in", ["form", "file"])
def n_check_read : Str × List Str := ("check_read", ["form", "file"])
def n_read : Str × List Str := ("read", ["form", "file"])
def n_refusal : Str × List Str := ("refusal", ["form", "file"])
def n_looked_at : Str × List Str := ("looked_at", ["form", "file"])
def n_law_bag : Str × List Str := ("_law_bag", ["script", "at"])
def n_law_grab : Str × List Str := ("_law_grab", ["bag", "below"])
def n_law_equal : Str × List Str := ("_law_equal", ["found", "due"])
def n_law_use : Str × List Str := ("_law_use", ["form_here", "sign"])
def n_law_long : Str × List Str := ("_law_long", ["form_here", "signs_here", "at"])
def n_law_chunk : Str × List Str := ("_law_chunk", ["form_here", "signs_here", "at", "use_here"])
def n_law_reading : Str × List Str := ("_law_reading", ["form_here", "signs_here"])
def n_law_long_file : Str × List Str := ("_law_long_file", ["bag", "form_here", "use_here"])
def n_law_told : Str × List Str := ("_law_told", ["form_here", "row"])
def n_law : Str × List Str := ("law", ["script"])
def T : Tab where
  glo := ["USES", "GREATEST_BASE", "WIDTHS", "OTHERS", "TAG", "SKIP", "CHECK", "ONE", "HIGH", "END", "ROOM", "STOP", "OVER", "SHORT", "TOLD"]
  fns := [n_is_integer, n_is_at_least, n_is_sign, n_is_signs, n_is_word_of, n_is_tags, n_is_head, n_is_format, n_is_file_of, n_check_format, n_check_file, n_first_stand, n_use_at, n_body_stand, n_behind_length, n_behind_second, n_behind_body, n_behind_head, n_behind_tag, n_step, n_is_ending, n_is_looking, n_word_at, n_refusal_of, n_told_at, n_told_in, n_looked_in, n_check_read, n_read, n_refusal, n_looked_at, n_law_bag, n_law_grab, n_law_equal, n_law_use, n_law_long, n_law_chunk, n_law_reading, n_law_long_file, n_law_told, n_law]
  kws := []
  tabs := [("WORDS", t_WORDS)]
  excs := [⟨"Refused", "FileError", ["index", "word"]⟩]
def i_is_integer : DefI := ⟨"is_integer", ["value"], ["value"], f_is_integer, top 23⟩
theorem k_is_integer : i_is_integer.ok T = true := by decide +kernel
theorem s_is_integer : FnScope i_is_integer.N ["value"] (defScope (top 23)) := ⟨rfl, rfl, rfl, by decide +kernel, rfl, by decide +kernel, by decide +kernel⟩
def d_is_integer : He.DefD := ⟨("is_integer", none), "is_integer", "is_integer", defArgs (top 23), defBody (top 23), defScope (top 23), [], []⟩
def i_is_at_least : DefI := ⟨"is_at_least", ["value", "least"], ["value", "least"], f_is_at_least, top 24⟩
theorem k_is_at_least : i_is_at_least.ok T = true := by decide +kernel
theorem s_is_at_least : FnScope i_is_at_least.N ["value", "least"] (defScope (top 24)) := ⟨rfl, rfl, rfl, by decide +kernel, rfl, by decide +kernel, by decide +kernel⟩
def d_is_at_least : He.DefD := ⟨("is_at_least", none), "is_at_least", "is_at_least", defArgs (top 24), defBody (top 24), defScope (top 24), [], []⟩
def i_is_sign : DefI := ⟨"is_sign", ["base", "value"], ["base", "value"], f_is_sign, top 25⟩
theorem k_is_sign : i_is_sign.ok T = true := by decide +kernel
theorem s_is_sign : FnScope i_is_sign.N ["base", "value"] (defScope (top 25)) := ⟨rfl, rfl, rfl, by decide +kernel, rfl, by decide +kernel, by decide +kernel⟩
def d_is_sign : He.DefD := ⟨("is_sign", none), "is_sign", "is_sign", defArgs (top 25), defBody (top 25), defScope (top 25), [], []⟩
def i_is_signs : DefI := ⟨"is_signs", ["base", "value"], ["base", "value", "sign"], f_is_signs, top 26⟩
theorem k_is_signs : i_is_signs.ok T = true := by decide +kernel
theorem s_is_signs : FnScope i_is_signs.N ["base", "value"] (defScope (top 26)) := ⟨rfl, rfl, rfl, by decide +kernel, rfl, by decide +kernel, by decide +kernel⟩
def d_is_signs : He.DefD := ⟨("is_signs", none), "is_signs", "is_signs", defArgs (top 26), defBody (top 26), defScope (top 26), [], []⟩
def i_is_word_of : DefI := ⟨"is_word_of", ["value", "words"], ["value", "words"], f_is_word_of, top 27⟩
theorem k_is_word_of : i_is_word_of.ok T = true := by decide +kernel
theorem s_is_word_of : FnScope i_is_word_of.N ["value", "words"] (defScope (top 27)) := ⟨rfl, rfl, rfl, by decide +kernel, rfl, by decide +kernel, by decide +kernel⟩
def d_is_word_of : He.DefD := ⟨("is_word_of", none), "is_word_of", "is_word_of", defArgs (top 27), defBody (top 27), defScope (top 27), [], []⟩
def i_is_tags : DefI := ⟨"is_tags", ["base", "value"], ["base", "value", "tag", "after"], f_is_tags, top 28⟩
theorem k_is_tags : i_is_tags.ok T = true := by decide +kernel
theorem s_is_tags : FnScope i_is_tags.N ["base", "value"] (defScope (top 28)) := ⟨rfl, rfl, rfl, by decide +kernel, rfl, by decide +kernel, by decide +kernel⟩
def d_is_tags : He.DefD := ⟨("is_tags", none), "is_tags", "is_tags", defArgs (top 28), defBody (top 28), defScope (top 28), [], []⟩
def i_is_head : DefI := ⟨"is_head", ["base", "value"], ["base", "value", "mark"], f_is_head, top 29⟩
theorem k_is_head : i_is_head.ok T = true := by decide +kernel
theorem s_is_head : FnScope i_is_head.N ["base", "value"] (defScope (top 29)) := ⟨rfl, rfl, rfl, by decide +kernel, rfl, by decide +kernel, by decide +kernel⟩
def d_is_head : He.DefD := ⟨("is_head", none), "is_head", "is_head", defArgs (top 29), defBody (top 29), defScope (top 29), [], []⟩
def i_is_format : DefI := ⟨"is_format", ["value"], ["value", "base", "head", "width", "most", "tags", "others"], f_is_format, top 30⟩
theorem k_is_format : i_is_format.ok T = true := by decide +kernel
theorem s_is_format : FnScope i_is_format.N ["value"] (defScope (top 30)) := ⟨rfl, rfl, rfl, by decide +kernel, rfl, by decide +kernel, by decide +kernel⟩
def d_is_format : He.DefD := ⟨("is_format", none), "is_format", "is_format", defArgs (top 30), defBody (top 30), defScope (top 30), [], []⟩
def i_is_file_of : DefI := ⟨"is_file_of", ["form", "value"], ["form", "value"], f_is_file_of, top 31⟩
theorem k_is_file_of : i_is_file_of.ok T = true := by decide +kernel
theorem s_is_file_of : FnScope i_is_file_of.N ["form", "value"] (defScope (top 31)) := ⟨rfl, rfl, rfl, by decide +kernel, rfl, by decide +kernel, by decide +kernel⟩
def d_is_file_of : He.DefD := ⟨("is_file_of", none), "is_file_of", "is_file_of", defArgs (top 31), defBody (top 31), defScope (top 31), [], []⟩
def i_check_format : DefI := ⟨"check_format", ["form"], ["form"], f_check_format, top 32⟩
theorem k_check_format : i_check_format.ok T = true := by decide +kernel
theorem s_check_format : FnScope i_check_format.N ["form"] (defScope (top 32)) := ⟨rfl, rfl, rfl, by decide +kernel, rfl, by decide +kernel, by decide +kernel⟩
def d_check_format : He.DefD := ⟨("check_format", none), "check_format", "check_format", defArgs (top 32), defBody (top 32), defScope (top 32), [], []⟩
def i_check_file : DefI := ⟨"check_file", ["form", "file"], ["form", "file"], f_check_file, top 33⟩
theorem k_check_file : i_check_file.ok T = true := by decide +kernel
theorem s_check_file : FnScope i_check_file.N ["form", "file"] (defScope (top 33)) := ⟨rfl, rfl, rfl, by decide +kernel, rfl, by decide +kernel, by decide +kernel⟩
def d_check_file : He.DefD := ⟨("check_file", none), "check_file", "check_file", defArgs (top 33), defBody (top 33), defScope (top 33), [], []⟩
def i_first_stand : DefI := ⟨"first_stand", ["form"], ["form"], f_first_stand, top 34⟩
theorem k_first_stand : i_first_stand.ok T = true := by decide +kernel
theorem s_first_stand : FnScope i_first_stand.N ["form"] (defScope (top 34)) := ⟨rfl, rfl, rfl, by decide +kernel, rfl, by decide +kernel, by decide +kernel⟩
def d_first_stand : He.DefD := ⟨("first_stand", none), "first_stand", "first_stand", defArgs (top 34), defBody (top 34), defScope (top 34), [], []⟩
def i_use_at : DefI := ⟨"use_at", ["form", "sign"], ["form", "sign", "tag", "use"], f_use_at, top 35⟩
theorem k_use_at : i_use_at.ok T = true := by decide +kernel
theorem s_use_at : FnScope i_use_at.N ["form", "sign"] (defScope (top 35)) := ⟨rfl, rfl, rfl, by decide +kernel, rfl, by decide +kernel, by decide +kernel⟩
def d_use_at : He.DefD := ⟨("use_at", none), "use_at", "use_at", defArgs (top 35), defBody (top 35), defScope (top 35), [], []⟩
def i_body_stand : DefI := ⟨"body_stand", ["use", "length"], ["use", "length"], f_body_stand, top 36⟩
theorem k_body_stand : i_body_stand.ok T = true := by decide +kernel
theorem s_body_stand : FnScope i_body_stand.N ["use", "length"] (defScope (top 36)) := ⟨rfl, rfl, rfl, by decide +kernel, rfl, by decide +kernel, by decide +kernel⟩
def d_body_stand : He.DefD := ⟨("body_stand", none), "body_stand", "body_stand", defArgs (top 36), defBody (top 36), defScope (top 36), [], []⟩
def i_behind_length : DefI := ⟨"behind_length", ["form", "use", "sign"], ["form", "use", "sign", "least", "base", "most"], f_behind_length, top 37⟩
theorem k_behind_length : i_behind_length.ok T = true := by decide +kernel
theorem s_behind_length : FnScope i_behind_length.N ["form", "use", "sign"] (defScope (top 37)) := ⟨rfl, rfl, rfl, by decide +kernel, rfl, by decide +kernel, by decide +kernel⟩
def d_behind_length : He.DefD := ⟨("behind_length", none), "behind_length", "behind_length", defArgs (top 37), defBody (top 37), defScope (top 37), [], []⟩
def i_behind_second : DefI := ⟨"behind_second", ["form", "use", "first", "sign"], ["form", "use", "first", "sign", "length"], f_behind_second, top 38⟩
theorem k_behind_second : i_behind_second.ok T = true := by decide +kernel
theorem s_behind_second : FnScope i_behind_second.N ["form", "use", "first", "sign"] (defScope (top 38)) := ⟨rfl, rfl, rfl, by decide +kernel, rfl, by decide +kernel, by decide +kernel⟩
def d_behind_second : He.DefD := ⟨("behind_second", none), "behind_second", "behind_second", defArgs (top 38), defBody (top 38), defScope (top 38), [], []⟩
def i_behind_body : DefI := ⟨"behind_body", ["form", "stand", "sign"], ["form", "stand", "sign", "use", "left", "total"], f_behind_body, top 39⟩
theorem k_behind_body : i_behind_body.ok T = true := by decide +kernel
theorem s_behind_body : FnScope i_behind_body.N ["form", "stand", "sign"] (defScope (top 39)) := ⟨rfl, rfl, rfl, by decide +kernel, rfl, by decide +kernel, by decide +kernel⟩
def d_behind_body : He.DefD := ⟨("behind_body", none), "behind_body", "behind_body", defArgs (top 39), defBody (top 39), defScope (top 39), [], []⟩
def i_behind_head : DefI := ⟨"behind_head", ["form", "place", "sign"], ["form", "place", "sign", "mark"], f_behind_head, top 40⟩
theorem k_behind_head : i_behind_head.ok T = true := by decide +kernel
theorem s_behind_head : FnScope i_behind_head.N ["form", "place", "sign"] (defScope (top 40)) := ⟨rfl, rfl, rfl, by decide +kernel, rfl, by decide +kernel, by decide +kernel⟩
def d_behind_head : He.DefD := ⟨("behind_head", none), "behind_head", "behind_head", defArgs (top 40), defBody (top 40), defScope (top 40), [], []⟩
def i_behind_tag : DefI := ⟨"behind_tag", ["form", "sign"], ["form", "sign", "use"], f_behind_tag, top 41⟩
theorem k_behind_tag : i_behind_tag.ok T = true := by decide +kernel
theorem s_behind_tag : FnScope i_behind_tag.N ["form", "sign"] (defScope (top 41)) := ⟨rfl, rfl, rfl, by decide +kernel, rfl, by decide +kernel, by decide +kernel⟩
def d_behind_tag : He.DefD := ⟨("behind_tag", none), "behind_tag", "behind_tag", defArgs (top 41), defBody (top 41), defScope (top 41), [], []⟩
def i_step : DefI := ⟨"step", ["form", "stand", "sign"], ["form", "stand", "sign", "word"], f_step, top 42⟩
theorem k_step : i_step.ok T = true := by decide +kernel
theorem s_step : FnScope i_step.N ["form", "stand", "sign"] (defScope (top 42)) := ⟨rfl, rfl, rfl, by decide +kernel, rfl, by decide +kernel, by decide +kernel⟩
def d_step : He.DefD := ⟨("step", none), "step", "step", defArgs (top 42), defBody (top 42), defScope (top 42), [], []⟩
def i_is_ending : DefI := ⟨"is_ending", ["form", "stand"], ["form", "stand", "sign", "use"], f_is_ending, top 43⟩
theorem k_is_ending : i_is_ending.ok T = true := by decide +kernel
theorem s_is_ending : FnScope i_is_ending.N ["form", "stand"] (defScope (top 43)) := ⟨rfl, rfl, rfl, by decide +kernel, rfl, by decide +kernel, by decide +kernel⟩
def d_is_ending : He.DefD := ⟨("is_ending", none), "is_ending", "is_ending", defArgs (top 43), defBody (top 43), defScope (top 43), [], []⟩
def i_is_looking : DefI := ⟨"is_looking", ["form", "stand"], ["form", "stand"], f_is_looking, top 44⟩
theorem k_is_looking : i_is_looking.ok T = true := by decide +kernel
theorem s_is_looking : FnScope i_is_looking.N ["form", "stand"] (defScope (top 44)) := ⟨rfl, rfl, rfl, by decide +kernel, rfl, by decide +kernel, by decide +kernel⟩
def d_is_looking : He.DefD := ⟨("is_looking", none), "is_looking", "is_looking", defArgs (top 44), defBody (top 44), defScope (top 44), [], []⟩
def i_word_at : DefI := ⟨"word_at", ["stand"], ["stand"], f_word_at, top 48⟩
theorem k_word_at : i_word_at.ok T = true := by decide +kernel
theorem s_word_at : FnScope i_word_at.N ["stand"] (defScope (top 48)) := ⟨rfl, rfl, rfl, by decide +kernel, rfl, by decide +kernel, by decide +kernel⟩
def d_word_at : He.DefD := ⟨("word_at", none), "word_at", "word_at", defArgs (top 48), defBody (top 48), defScope (top 48), [], []⟩
def i_refusal_of : DefI := ⟨"refusal_of", ["form", "file"], ["form", "file", "stand", "index", "sign", "after"], f_refusal_of, top 49⟩
theorem k_refusal_of : i_refusal_of.ok T = true := by decide +kernel
theorem s_refusal_of : FnScope i_refusal_of.N ["form", "file"] (defScope (top 49)) := ⟨rfl, rfl, rfl, by decide +kernel, rfl, by decide +kernel, by decide +kernel⟩
def d_refusal_of : He.DefD := ⟨("refusal_of", none), "refusal_of", "refusal_of", defArgs (top 49), defBody (top 49), defScope (top 49), [], []⟩
def i_told_at : DefI := ⟨"told_at", ["form", "stand", "sign", "told"], ["form", "stand", "sign", "told", "ahead", "tag", "body"], f_told_at, top 50⟩
theorem k_told_at : i_told_at.ok T = true := by decide +kernel
theorem s_told_at : FnScope i_told_at.N ["form", "stand", "sign", "told"] (defScope (top 50)) := ⟨rfl, rfl, rfl, by decide +kernel, rfl, by decide +kernel, by decide +kernel⟩
def d_told_at : He.DefD := ⟨("told_at", none), "told_at", "told_at", defArgs (top 50), defBody (top 50), defScope (top 50), [], []⟩
def i_told_in : DefI := ⟨"told_in", ["form", "signs"], ["form", "signs", "sign", "stand", "told"], f_told_in, top 51⟩
theorem k_told_in : i_told_in.ok T = true := by decide +kernel
theorem s_told_in : FnScope i_told_in.N ["form", "signs"] (defScope (top 51)) := ⟨rfl, rfl, rfl, by decide +kernel, rfl, by decide +kernel, by decide +kernel⟩
def d_told_in : He.DefD := ⟨("told_in", none), "told_in", "told_in", defArgs (top 51), defBody (top 51), defScope (top 51), [], []⟩
def i_looked_in : DefI := ⟨"looked_in", ["form", "file"], ["form", "file", "stand", "found", "index", "sign"], f_looked_in, top 52⟩
theorem k_looked_in : i_looked_in.ok T = true := by decide +kernel
theorem s_looked_in : FnScope i_looked_in.N ["form", "file"] (defScope (top 52)) := ⟨rfl, rfl, rfl, by decide +kernel, rfl, by decide +kernel, by decide +kernel⟩
def d_looked_in : He.DefD := ⟨("looked_in", none), "looked_in", "looked_in", defArgs (top 52), defBody (top 52), defScope (top 52), [], []⟩
def i_check_read : DefI := ⟨"check_read", ["form", "file"], ["form", "file", "found", "index", "word"], f_check_read, top 53⟩
theorem k_check_read : i_check_read.ok T = true := by decide +kernel
theorem s_check_read : FnScope i_check_read.N ["form", "file"] (defScope (top 53)) := ⟨rfl, rfl, rfl, by decide +kernel, rfl, by decide +kernel, by decide +kernel⟩
def d_check_read : He.DefD := ⟨("check_read", none), "check_read", "check_read", defArgs (top 53), defBody (top 53), defScope (top 53), [], []⟩
def i_read : DefI := ⟨"read", ["form", "file"], ["form", "file"], f_read, top 54⟩
theorem k_read : i_read.ok T = true := by decide +kernel
theorem s_read : FnScope i_read.N ["form", "file"] (defScope (top 54)) := ⟨rfl, rfl, rfl, by decide +kernel, rfl, by decide +kernel, by decide +kernel⟩
def d_read : He.DefD := ⟨("read", none), "read", "read", defArgs (top 54), defBody (top 54), defScope (top 54), [], []⟩
def i_refusal : DefI := ⟨"refusal", ["form", "file"], ["form", "file"], f_refusal, top 55⟩
theorem k_refusal : i_refusal.ok T = true := by decide +kernel
theorem s_refusal : FnScope i_refusal.N ["form", "file"] (defScope (top 55)) := ⟨rfl, rfl, rfl, by decide +kernel, rfl, by decide +kernel, by decide +kernel⟩
def d_refusal : He.DefD := ⟨("refusal", none), "refusal", "refusal", defArgs (top 55), defBody (top 55), defScope (top 55), [], []⟩
def i_looked_at : DefI := ⟨"looked_at", ["form", "file"], ["form", "file"], f_looked_at, top 56⟩
theorem k_looked_at : i_looked_at.ok T = true := by decide +kernel
theorem s_looked_at : FnScope i_looked_at.N ["form", "file"] (defScope (top 56)) := ⟨rfl, rfl, rfl, by decide +kernel, rfl, by decide +kernel, by decide +kernel⟩
def d_looked_at : He.DefD := ⟨("looked_at", none), "looked_at", "looked_at", defArgs (top 56), defBody (top 56), defScope (top 56), [], []⟩
def i_law_bag : DefI := ⟨"_law_bag", ["script", "at"], ["script", "at", "cell"], f_law_bag, top 58⟩
theorem k_law_bag : i_law_bag.ok T = true := by decide +kernel
theorem s_law_bag : FnScope i_law_bag.N ["script", "at"] (defScope (top 58)) := ⟨rfl, rfl, rfl, by decide +kernel, rfl, by decide +kernel, by decide +kernel⟩
def d_law_bag : He.DefD := ⟨("_law_bag", none), "_law_bag", "_law_bag", defArgs (top 58), defBody (top 58), defScope (top 58), [], []⟩
def i_law_grab : DefI := ⟨"_law_grab", ["bag", "below"], ["bag", "below", "mix", "digit"], f_law_grab, top 59⟩
theorem k_law_grab : i_law_grab.ok T = true := by decide +kernel
theorem s_law_grab : FnScope i_law_grab.N ["bag", "below"] (defScope (top 59)) := ⟨rfl, rfl, rfl, by decide +kernel, rfl, by decide +kernel, by decide +kernel⟩
def d_law_grab : He.DefD := ⟨("_law_grab", none), "_law_grab", "_law_grab", defArgs (top 59), defBody (top 59), defScope (top 59), [], []⟩
def i_law_equal : DefI := ⟨"_law_equal", ["found", "due"], ["found", "due", "k"], f_law_equal, top 60⟩
theorem k_law_equal : i_law_equal.ok T = true := by decide +kernel
theorem s_law_equal : FnScope i_law_equal.N ["found", "due"] (defScope (top 60)) := ⟨rfl, rfl, rfl, by decide +kernel, rfl, by decide +kernel, by decide +kernel⟩
def d_law_equal : He.DefD := ⟨("_law_equal", none), "_law_equal", "_law_equal", defArgs (top 60), defBody (top 60), defScope (top 60), [], []⟩
def i_law_use : DefI := ⟨"_law_use", ["form_here", "sign"], ["form_here", "sign", "row"], f_law_use, top 61⟩
theorem k_law_use : i_law_use.ok T = true := by decide +kernel
theorem s_law_use : FnScope i_law_use.N ["form_here", "sign"] (defScope (top 61)) := ⟨rfl, rfl, rfl, by decide +kernel, rfl, by decide +kernel, by decide +kernel⟩
def d_law_use : He.DefD := ⟨("_law_use", none), "_law_use", "_law_use", defArgs (top 61), defBody (top 61), defScope (top 61), [], []⟩
def i_law_long : DefI := ⟨"_law_long", ["form_here", "signs_here", "at"], ["form_here", "signs_here", "at", "first", "second", "worth", "base", "wide", "top"], f_law_long, top 62⟩
theorem k_law_long : i_law_long.ok T = true := by decide +kernel
theorem s_law_long : FnScope i_law_long.N ["form_here", "signs_here", "at"] (defScope (top 62)) := ⟨rfl, rfl, rfl, by decide +kernel, rfl, by decide +kernel, by decide +kernel⟩
def d_law_long : He.DefD := ⟨("_law_long", none), "_law_long", "_law_long", defArgs (top 62), defBody (top 62), defScope (top 62), [], []⟩
def i_law_chunk : DefI := ⟨"_law_chunk", ["form_here", "signs_here", "at", "use_here"], ["form_here", "signs_here", "at", "use_here", "body_here", "good", "worth"], f_law_chunk, top 63⟩
theorem k_law_chunk : i_law_chunk.ok T = true := by decide +kernel
theorem s_law_chunk : FnScope i_law_chunk.N ["form_here", "signs_here", "at", "use_here"] (defScope (top 63)) := ⟨rfl, rfl, rfl, by decide +kernel, rfl, by decide +kernel, by decide +kernel⟩
def d_law_chunk : He.DefD := ⟨("_law_chunk", none), "_law_chunk", "_law_chunk", defArgs (top 63), defBody (top 63), defScope (top 63), [], []⟩
def i_law_reading : DefI := ⟨"_law_reading", ["form_here", "signs_here"], ["form_here", "signs_here", "k", "at", "content_here", "blind", "use_here", "good", "body_here", "after", "row"], f_law_reading, top 64⟩
theorem k_law_reading : i_law_reading.ok T = true := by decide +kernel
theorem s_law_reading : FnScope i_law_reading.N ["form_here", "signs_here"] (defScope (top 64)) := ⟨rfl, rfl, rfl, by decide +kernel, rfl, by decide +kernel, by decide +kernel⟩
def d_law_reading : He.DefD := ⟨("_law_reading", none), "_law_reading", "_law_reading", defArgs (top 64), defBody (top 64), defScope (top 64), [], []⟩
def i_law_long_file : DefI := ⟨"_law_long_file", ["bag", "form_here", "use_here"], ["bag", "form_here", "use_here", "body_here", "top", "worth", "size_here", "found", "base", "size", "k"], f_law_long_file, top 65⟩
theorem k_law_long_file : i_law_long_file.ok T = true := by decide +kernel
theorem s_law_long_file : FnScope i_law_long_file.N ["bag", "form_here", "use_here"] (defScope (top 65)) := ⟨rfl, rfl, rfl, by decide +kernel, rfl, by decide +kernel, by decide +kernel⟩
def d_law_long_file : He.DefD := ⟨("_law_long_file", none), "_law_long_file", "_law_long_file", defArgs (top 65), defBody (top 65), defScope (top 65), [], []⟩
def i_law_told : DefI := ⟨"_law_told", ["form_here", "row"], ["form_here", "row", "found", "e"], f_law_told, top 66⟩
theorem k_law_told : i_law_told.ok T = true := by decide +kernel
theorem s_law_told : FnScope i_law_told.N ["form_here", "row"] (defScope (top 66)) := ⟨rfl, rfl, rfl, by decide +kernel, rfl, by decide +kernel, by decide +kernel⟩
def d_law_told : He.DefD := ⟨("_law_told", none), "_law_told", "_law_told", defArgs (top 66), defBody (top 66), defScope (top 66), [], []⟩
def i_law : DefI := ⟨"law", ["script"], ["script", "at", "f", "bag", "use_here", "base", "top", "ends", "form_here", "turn", "row", "due", "told_here", "blind", "bad", "k"], f_law, top 67⟩
theorem k_law : i_law.ok T = true := by decide +kernel
theorem s_law : FnScope i_law.N ["script"] (defScope (top 67)) := ⟨rfl, rfl, rfl, by decide +kernel, rfl, by decide +kernel, by decide +kernel⟩
def d_law : He.DefD := ⟨("law", none), "law", "law", defArgs (top 67), defBody (top 67), defScope (top 67), [], []⟩
def st_Refused : Stmt := clsAt (top 4) 0
theorem xb_Refused : initB ["self", "index", "word"] (defScope st_Refused) ⟨"Refused", "FileError", ["index", "word"]⟩ (defBody st_Refused) = true := by decide +kernel
theorem xs_Refused : FnScope ["self", "index", "word"] ["self", "index", "word"] (defScope st_Refused) := ⟨rfl, rfl, rfl, by decide +kernel, rfl, by decide +kernel, by decide +kernel⟩
def dx_Refused : He.DefD := ⟨("Refused", some "__init__"), "__init__", "Refused.__init__", defArgs st_Refused, defBody st_Refused, defScope st_Refused, [], []⟩
def fn : List He.DefD := [d_is_integer, d_is_at_least, d_is_sign, d_is_signs, d_is_word_of, d_is_tags, d_is_head, d_is_format, d_is_file_of, d_check_format, d_check_file, d_first_stand, d_use_at, d_body_stand, d_behind_length, d_behind_second, d_behind_body, d_behind_head, d_behind_tag, d_step, d_is_ending, d_is_looking, d_word_at, d_refusal_of, d_told_at, d_told_in, d_looked_in, d_check_read, d_read, d_refusal, d_looked_at, d_law_bag, d_law_grab, d_law_equal, d_law_use, d_law_long, d_law_chunk, d_law_reading, d_law_long_file, d_law_told, d_law, dx_Refused]
def fa : List He.Fa := [.glo "is_integer", .glo "is_at_least", .glo "is_sign", .glo "is_signs", .glo "is_word_of", .glo "is_tags", .glo "is_head", .glo "is_format", .glo "is_file_of", .glo "check_format", .glo "check_file", .glo "first_stand", .glo "use_at", .glo "body_stand", .glo "behind_length", .glo "behind_second", .glo "behind_body", .glo "behind_head", .glo "behind_tag", .glo "step", .glo "is_ending", .glo "is_looking", .glo "word_at", .glo "refusal_of", .glo "told_at", .glo "told_in", .glo "looked_in", .glo "check_read", .glo "read", .glo "refusal", .glo "looked_at", .glo "_law_bag", .glo "_law_grab", .glo "_law_equal", .glo "_law_use", .glo "_law_long", .glo "_law_chunk", .glo "_law_reading", .glo "_law_long_file", .glo "_law_told", .glo "law"] ++ frees
def gl : List (Str × PV) := T.glo.zip G
def loose0 : List Str := ["__name__", "FileError", "InvalidFormat", "InvalidFile", "Refused", "KEEP", "CHECK", "SKIP", "END", "STOP", "REFUSE", "USES", "TOLD", "OTHERS", "ONE", "HIGH", "LOW", "WIDTHS", "GREATEST_BASE", "TAG", "ROOM", "OVER", "is_integer", "is_at_least", "is_sign", "is_signs", "is_word_of", "is_tags", "is_head", "is_format"]
def loose1 : List Str := ["is_file_of", "check_format", "check_file", "first_stand", "use_at", "body_stand", "behind_length", "behind_second", "behind_body", "behind_head", "behind_tag", "step", "is_ending", "is_looking", "WORDS", "SHORT", "word_at", "refusal_of", "told_at", "told_in", "looked_in", "check_read", "read", "refusal", "looked_at", "_law_bag", "_law_grab", "_law_equal", "_law_use", "_law_long"]
def loose2 : List Str := ["_law_chunk", "_law_reading", "_law_long_file", "_law_told"]
def loose : List Str := loose0 ++ loose1 ++ loose2
abbrev RowW : PySem.W.OpenRow := PySem.W.OpenLaw.row PySem.Challenge.rw_bothreaders_k13_long_bodies_and_lengths
abbrev hk : PySem.W.Hook := hookV 4 gl T.tabs T.excs fa fn
def ob (s : PySem.W.SharedT) : AlV := obsVG 4 gl T.tabs T.excs fa fn (HandSHeadRun.getT s)
theorem ob_eq (s : PySem.W.SharedT) : ob s = hk.obs s.abs := obsVG_eq (HandSHeadRun.getT_eq s)

theorem run_false (w : World) : HandSHeadRun.RunEq RowW (PySem.W.view RowW.prog [67]) hk ob 6000 loose (w.withFollow "special-get-raises" false) := by
  intro os
  kernel_rfl
theorem run_true (w : World) : HandSHeadRun.RunEq RowW (PySem.W.view RowW.prog [67]) hk ob 6000 loose (w.withFollow "special-get-raises" true) := by
  intro os
  kernel_rfl
theorem run (w : World) : HandSHeadRun.RunEq RowW (PySem.W.view RowW.prog [67]) hk ob 6000 loose w := PySem.W.byRow2 "special-get-raises" (P := fun w => HandSHeadRun.RunEq RowW (PySem.W.view RowW.prog [67]) hk ob 6000 loose w) run_false run_true w
section
variable {K : PySem.W.Frag} {w : World} {h : Heap} {mg : Str → Option Value} (X : K.In h) (Gx : h.Ns mainGlobals mg) (c : SaysV gl T.tabs T.excs fa fn w K)
include X Gx c in
theorem o_is_integer : ∃ (a : Addr) (fd : FuncData), DefOk K mg T F 0 "is_integer" ["value"] a fd i_is_integer := by
  obtain ⟨fd, FF⟩ := c.d.def_ 0 (d := d_is_integer) rfl
  exact ⟨_, fd, He.glo_ok X Gx (c.d.fact 0 (f := .glo "is_integer") rfl), FF, FunD.bindsN FF fun _ _ _ _ _ _ us hl => match us, hl with | [_], _ => rfl, rfl, k_is_integer, s_is_integer, fun n ks order hw => kw_no (T := T) (by decide) hw⟩
include X Gx c in
theorem o_is_at_least : ∃ (a : Addr) (fd : FuncData), DefOk K mg T F 1 "is_at_least" ["value", "least"] a fd i_is_at_least := by
  obtain ⟨fd, FF⟩ := c.d.def_ 1 (d := d_is_at_least) rfl
  exact ⟨_, fd, He.glo_ok X Gx (c.d.fact 1 (f := .glo "is_at_least") rfl), FF, FunD.bindsN FF fun _ _ _ _ _ _ us hl => match us, hl with | [_, _], _ => rfl, rfl, k_is_at_least, s_is_at_least, fun n ks order hw => kw_no (T := T) (by decide) hw⟩
include X Gx c in
theorem o_is_sign : ∃ (a : Addr) (fd : FuncData), DefOk K mg T F 2 "is_sign" ["base", "value"] a fd i_is_sign := by
  obtain ⟨fd, FF⟩ := c.d.def_ 2 (d := d_is_sign) rfl
  exact ⟨_, fd, He.glo_ok X Gx (c.d.fact 2 (f := .glo "is_sign") rfl), FF, FunD.bindsN FF fun _ _ _ _ _ _ us hl => match us, hl with | [_, _], _ => rfl, rfl, k_is_sign, s_is_sign, fun n ks order hw => kw_no (T := T) (by decide) hw⟩
include X Gx c in
theorem o_is_signs : ∃ (a : Addr) (fd : FuncData), DefOk K mg T F 3 "is_signs" ["base", "value"] a fd i_is_signs := by
  obtain ⟨fd, FF⟩ := c.d.def_ 3 (d := d_is_signs) rfl
  exact ⟨_, fd, He.glo_ok X Gx (c.d.fact 3 (f := .glo "is_signs") rfl), FF, FunD.bindsN FF fun _ _ _ _ _ _ us hl => match us, hl with | [_, _], _ => rfl, rfl, k_is_signs, s_is_signs, fun n ks order hw => kw_no (T := T) (by decide) hw⟩
include X Gx c in
theorem o_is_word_of : ∃ (a : Addr) (fd : FuncData), DefOk K mg T F 4 "is_word_of" ["value", "words"] a fd i_is_word_of := by
  obtain ⟨fd, FF⟩ := c.d.def_ 4 (d := d_is_word_of) rfl
  exact ⟨_, fd, He.glo_ok X Gx (c.d.fact 4 (f := .glo "is_word_of") rfl), FF, FunD.bindsN FF fun _ _ _ _ _ _ us hl => match us, hl with | [_, _], _ => rfl, rfl, k_is_word_of, s_is_word_of, fun n ks order hw => kw_no (T := T) (by decide) hw⟩
include X Gx c in
theorem o_is_tags : ∃ (a : Addr) (fd : FuncData), DefOk K mg T F 5 "is_tags" ["base", "value"] a fd i_is_tags := by
  obtain ⟨fd, FF⟩ := c.d.def_ 5 (d := d_is_tags) rfl
  exact ⟨_, fd, He.glo_ok X Gx (c.d.fact 5 (f := .glo "is_tags") rfl), FF, FunD.bindsN FF fun _ _ _ _ _ _ us hl => match us, hl with | [_, _], _ => rfl, rfl, k_is_tags, s_is_tags, fun n ks order hw => kw_no (T := T) (by decide) hw⟩
include X Gx c in
theorem o_is_head : ∃ (a : Addr) (fd : FuncData), DefOk K mg T F 6 "is_head" ["base", "value"] a fd i_is_head := by
  obtain ⟨fd, FF⟩ := c.d.def_ 6 (d := d_is_head) rfl
  exact ⟨_, fd, He.glo_ok X Gx (c.d.fact 6 (f := .glo "is_head") rfl), FF, FunD.bindsN FF fun _ _ _ _ _ _ us hl => match us, hl with | [_, _], _ => rfl, rfl, k_is_head, s_is_head, fun n ks order hw => kw_no (T := T) (by decide) hw⟩
include X Gx c in
theorem o_is_format : ∃ (a : Addr) (fd : FuncData), DefOk K mg T F 7 "is_format" ["value"] a fd i_is_format := by
  obtain ⟨fd, FF⟩ := c.d.def_ 7 (d := d_is_format) rfl
  exact ⟨_, fd, He.glo_ok X Gx (c.d.fact 7 (f := .glo "is_format") rfl), FF, FunD.bindsN FF fun _ _ _ _ _ _ us hl => match us, hl with | [_], _ => rfl, rfl, k_is_format, s_is_format, fun n ks order hw => kw_no (T := T) (by decide) hw⟩
include X Gx c in
theorem o_is_file_of : ∃ (a : Addr) (fd : FuncData), DefOk K mg T F 8 "is_file_of" ["form", "value"] a fd i_is_file_of := by
  obtain ⟨fd, FF⟩ := c.d.def_ 8 (d := d_is_file_of) rfl
  exact ⟨_, fd, He.glo_ok X Gx (c.d.fact 8 (f := .glo "is_file_of") rfl), FF, FunD.bindsN FF fun _ _ _ _ _ _ us hl => match us, hl with | [_, _], _ => rfl, rfl, k_is_file_of, s_is_file_of, fun n ks order hw => kw_no (T := T) (by decide) hw⟩
include X Gx c in
theorem o_check_format : ∃ (a : Addr) (fd : FuncData), DefOk K mg T F 9 "check_format" ["form"] a fd i_check_format := by
  obtain ⟨fd, FF⟩ := c.d.def_ 9 (d := d_check_format) rfl
  exact ⟨_, fd, He.glo_ok X Gx (c.d.fact 9 (f := .glo "check_format") rfl), FF, FunD.bindsN FF fun _ _ _ _ _ _ us hl => match us, hl with | [_], _ => rfl, rfl, k_check_format, s_check_format, fun n ks order hw => kw_no (T := T) (by decide) hw⟩
include X Gx c in
theorem o_check_file : ∃ (a : Addr) (fd : FuncData), DefOk K mg T F 10 "check_file" ["form", "file"] a fd i_check_file := by
  obtain ⟨fd, FF⟩ := c.d.def_ 10 (d := d_check_file) rfl
  exact ⟨_, fd, He.glo_ok X Gx (c.d.fact 10 (f := .glo "check_file") rfl), FF, FunD.bindsN FF fun _ _ _ _ _ _ us hl => match us, hl with | [_, _], _ => rfl, rfl, k_check_file, s_check_file, fun n ks order hw => kw_no (T := T) (by decide) hw⟩
include X Gx c in
theorem o_first_stand : ∃ (a : Addr) (fd : FuncData), DefOk K mg T F 11 "first_stand" ["form"] a fd i_first_stand := by
  obtain ⟨fd, FF⟩ := c.d.def_ 11 (d := d_first_stand) rfl
  exact ⟨_, fd, He.glo_ok X Gx (c.d.fact 11 (f := .glo "first_stand") rfl), FF, FunD.bindsN FF fun _ _ _ _ _ _ us hl => match us, hl with | [_], _ => rfl, rfl, k_first_stand, s_first_stand, fun n ks order hw => kw_no (T := T) (by decide) hw⟩
include X Gx c in
theorem o_use_at : ∃ (a : Addr) (fd : FuncData), DefOk K mg T F 12 "use_at" ["form", "sign"] a fd i_use_at := by
  obtain ⟨fd, FF⟩ := c.d.def_ 12 (d := d_use_at) rfl
  exact ⟨_, fd, He.glo_ok X Gx (c.d.fact 12 (f := .glo "use_at") rfl), FF, FunD.bindsN FF fun _ _ _ _ _ _ us hl => match us, hl with | [_, _], _ => rfl, rfl, k_use_at, s_use_at, fun n ks order hw => kw_no (T := T) (by decide) hw⟩
include X Gx c in
theorem o_body_stand : ∃ (a : Addr) (fd : FuncData), DefOk K mg T F 13 "body_stand" ["use", "length"] a fd i_body_stand := by
  obtain ⟨fd, FF⟩ := c.d.def_ 13 (d := d_body_stand) rfl
  exact ⟨_, fd, He.glo_ok X Gx (c.d.fact 13 (f := .glo "body_stand") rfl), FF, FunD.bindsN FF fun _ _ _ _ _ _ us hl => match us, hl with | [_, _], _ => rfl, rfl, k_body_stand, s_body_stand, fun n ks order hw => kw_no (T := T) (by decide) hw⟩
include X Gx c in
theorem o_behind_length : ∃ (a : Addr) (fd : FuncData), DefOk K mg T F 14 "behind_length" ["form", "use", "sign"] a fd i_behind_length := by
  obtain ⟨fd, FF⟩ := c.d.def_ 14 (d := d_behind_length) rfl
  exact ⟨_, fd, He.glo_ok X Gx (c.d.fact 14 (f := .glo "behind_length") rfl), FF, FunD.bindsN FF fun _ _ _ _ _ _ us hl => match us, hl with | [_, _, _], _ => rfl, rfl, k_behind_length, s_behind_length, fun n ks order hw => kw_no (T := T) (by decide) hw⟩
include X Gx c in
theorem o_behind_second : ∃ (a : Addr) (fd : FuncData), DefOk K mg T F 15 "behind_second" ["form", "use", "first", "sign"] a fd i_behind_second := by
  obtain ⟨fd, FF⟩ := c.d.def_ 15 (d := d_behind_second) rfl
  exact ⟨_, fd, He.glo_ok X Gx (c.d.fact 15 (f := .glo "behind_second") rfl), FF, FunD.bindsN FF fun _ _ _ _ _ _ us hl => match us, hl with | [_, _, _, _], _ => rfl, rfl, k_behind_second, s_behind_second, fun n ks order hw => kw_no (T := T) (by decide) hw⟩
include X Gx c in
theorem o_behind_body : ∃ (a : Addr) (fd : FuncData), DefOk K mg T F 16 "behind_body" ["form", "stand", "sign"] a fd i_behind_body := by
  obtain ⟨fd, FF⟩ := c.d.def_ 16 (d := d_behind_body) rfl
  exact ⟨_, fd, He.glo_ok X Gx (c.d.fact 16 (f := .glo "behind_body") rfl), FF, FunD.bindsN FF fun _ _ _ _ _ _ us hl => match us, hl with | [_, _, _], _ => rfl, rfl, k_behind_body, s_behind_body, fun n ks order hw => kw_no (T := T) (by decide) hw⟩
include X Gx c in
theorem o_behind_head : ∃ (a : Addr) (fd : FuncData), DefOk K mg T F 17 "behind_head" ["form", "place", "sign"] a fd i_behind_head := by
  obtain ⟨fd, FF⟩ := c.d.def_ 17 (d := d_behind_head) rfl
  exact ⟨_, fd, He.glo_ok X Gx (c.d.fact 17 (f := .glo "behind_head") rfl), FF, FunD.bindsN FF fun _ _ _ _ _ _ us hl => match us, hl with | [_, _, _], _ => rfl, rfl, k_behind_head, s_behind_head, fun n ks order hw => kw_no (T := T) (by decide) hw⟩
include X Gx c in
theorem o_behind_tag : ∃ (a : Addr) (fd : FuncData), DefOk K mg T F 18 "behind_tag" ["form", "sign"] a fd i_behind_tag := by
  obtain ⟨fd, FF⟩ := c.d.def_ 18 (d := d_behind_tag) rfl
  exact ⟨_, fd, He.glo_ok X Gx (c.d.fact 18 (f := .glo "behind_tag") rfl), FF, FunD.bindsN FF fun _ _ _ _ _ _ us hl => match us, hl with | [_, _], _ => rfl, rfl, k_behind_tag, s_behind_tag, fun n ks order hw => kw_no (T := T) (by decide) hw⟩
include X Gx c in
theorem o_step : ∃ (a : Addr) (fd : FuncData), DefOk K mg T F 19 "step" ["form", "stand", "sign"] a fd i_step := by
  obtain ⟨fd, FF⟩ := c.d.def_ 19 (d := d_step) rfl
  exact ⟨_, fd, He.glo_ok X Gx (c.d.fact 19 (f := .glo "step") rfl), FF, FunD.bindsN FF fun _ _ _ _ _ _ us hl => match us, hl with | [_, _, _], _ => rfl, rfl, k_step, s_step, fun n ks order hw => kw_no (T := T) (by decide) hw⟩
include X Gx c in
theorem o_is_ending : ∃ (a : Addr) (fd : FuncData), DefOk K mg T F 20 "is_ending" ["form", "stand"] a fd i_is_ending := by
  obtain ⟨fd, FF⟩ := c.d.def_ 20 (d := d_is_ending) rfl
  exact ⟨_, fd, He.glo_ok X Gx (c.d.fact 20 (f := .glo "is_ending") rfl), FF, FunD.bindsN FF fun _ _ _ _ _ _ us hl => match us, hl with | [_, _], _ => rfl, rfl, k_is_ending, s_is_ending, fun n ks order hw => kw_no (T := T) (by decide) hw⟩
include X Gx c in
theorem o_is_looking : ∃ (a : Addr) (fd : FuncData), DefOk K mg T F 21 "is_looking" ["form", "stand"] a fd i_is_looking := by
  obtain ⟨fd, FF⟩ := c.d.def_ 21 (d := d_is_looking) rfl
  exact ⟨_, fd, He.glo_ok X Gx (c.d.fact 21 (f := .glo "is_looking") rfl), FF, FunD.bindsN FF fun _ _ _ _ _ _ us hl => match us, hl with | [_, _], _ => rfl, rfl, k_is_looking, s_is_looking, fun n ks order hw => kw_no (T := T) (by decide) hw⟩
include X Gx c in
theorem o_word_at : ∃ (a : Addr) (fd : FuncData), DefOk K mg T F 22 "word_at" ["stand"] a fd i_word_at := by
  obtain ⟨fd, FF⟩ := c.d.def_ 22 (d := d_word_at) rfl
  exact ⟨_, fd, He.glo_ok X Gx (c.d.fact 22 (f := .glo "word_at") rfl), FF, FunD.bindsN FF fun _ _ _ _ _ _ us hl => match us, hl with | [_], _ => rfl, rfl, k_word_at, s_word_at, fun n ks order hw => kw_no (T := T) (by decide) hw⟩
include X Gx c in
theorem o_refusal_of : ∃ (a : Addr) (fd : FuncData), DefOk K mg T F 23 "refusal_of" ["form", "file"] a fd i_refusal_of := by
  obtain ⟨fd, FF⟩ := c.d.def_ 23 (d := d_refusal_of) rfl
  exact ⟨_, fd, He.glo_ok X Gx (c.d.fact 23 (f := .glo "refusal_of") rfl), FF, FunD.bindsN FF fun _ _ _ _ _ _ us hl => match us, hl with | [_, _], _ => rfl, rfl, k_refusal_of, s_refusal_of, fun n ks order hw => kw_no (T := T) (by decide) hw⟩
include X Gx c in
theorem o_told_at : ∃ (a : Addr) (fd : FuncData), DefOk K mg T F 24 "told_at" ["form", "stand", "sign", "told"] a fd i_told_at := by
  obtain ⟨fd, FF⟩ := c.d.def_ 24 (d := d_told_at) rfl
  exact ⟨_, fd, He.glo_ok X Gx (c.d.fact 24 (f := .glo "told_at") rfl), FF, FunD.bindsN FF fun _ _ _ _ _ _ us hl => match us, hl with | [_, _, _, _], _ => rfl, rfl, k_told_at, s_told_at, fun n ks order hw => kw_no (T := T) (by decide) hw⟩
include X Gx c in
theorem o_told_in : ∃ (a : Addr) (fd : FuncData), DefOk K mg T F 25 "told_in" ["form", "signs"] a fd i_told_in := by
  obtain ⟨fd, FF⟩ := c.d.def_ 25 (d := d_told_in) rfl
  exact ⟨_, fd, He.glo_ok X Gx (c.d.fact 25 (f := .glo "told_in") rfl), FF, FunD.bindsN FF fun _ _ _ _ _ _ us hl => match us, hl with | [_, _], _ => rfl, rfl, k_told_in, s_told_in, fun n ks order hw => kw_no (T := T) (by decide) hw⟩
include X Gx c in
theorem o_looked_in : ∃ (a : Addr) (fd : FuncData), DefOk K mg T F 26 "looked_in" ["form", "file"] a fd i_looked_in := by
  obtain ⟨fd, FF⟩ := c.d.def_ 26 (d := d_looked_in) rfl
  exact ⟨_, fd, He.glo_ok X Gx (c.d.fact 26 (f := .glo "looked_in") rfl), FF, FunD.bindsN FF fun _ _ _ _ _ _ us hl => match us, hl with | [_, _], _ => rfl, rfl, k_looked_in, s_looked_in, fun n ks order hw => kw_no (T := T) (by decide) hw⟩
include X Gx c in
theorem o_check_read : ∃ (a : Addr) (fd : FuncData), DefOk K mg T F 27 "check_read" ["form", "file"] a fd i_check_read := by
  obtain ⟨fd, FF⟩ := c.d.def_ 27 (d := d_check_read) rfl
  exact ⟨_, fd, He.glo_ok X Gx (c.d.fact 27 (f := .glo "check_read") rfl), FF, FunD.bindsN FF fun _ _ _ _ _ _ us hl => match us, hl with | [_, _], _ => rfl, rfl, k_check_read, s_check_read, fun n ks order hw => kw_no (T := T) (by decide) hw⟩
include X Gx c in
theorem o_read : ∃ (a : Addr) (fd : FuncData), DefOk K mg T F 28 "read" ["form", "file"] a fd i_read := by
  obtain ⟨fd, FF⟩ := c.d.def_ 28 (d := d_read) rfl
  exact ⟨_, fd, He.glo_ok X Gx (c.d.fact 28 (f := .glo "read") rfl), FF, FunD.bindsN FF fun _ _ _ _ _ _ us hl => match us, hl with | [_, _], _ => rfl, rfl, k_read, s_read, fun n ks order hw => kw_no (T := T) (by decide) hw⟩
include X Gx c in
theorem o_refusal : ∃ (a : Addr) (fd : FuncData), DefOk K mg T F 29 "refusal" ["form", "file"] a fd i_refusal := by
  obtain ⟨fd, FF⟩ := c.d.def_ 29 (d := d_refusal) rfl
  exact ⟨_, fd, He.glo_ok X Gx (c.d.fact 29 (f := .glo "refusal") rfl), FF, FunD.bindsN FF fun _ _ _ _ _ _ us hl => match us, hl with | [_, _], _ => rfl, rfl, k_refusal, s_refusal, fun n ks order hw => kw_no (T := T) (by decide) hw⟩
include X Gx c in
theorem o_looked_at : ∃ (a : Addr) (fd : FuncData), DefOk K mg T F 30 "looked_at" ["form", "file"] a fd i_looked_at := by
  obtain ⟨fd, FF⟩ := c.d.def_ 30 (d := d_looked_at) rfl
  exact ⟨_, fd, He.glo_ok X Gx (c.d.fact 30 (f := .glo "looked_at") rfl), FF, FunD.bindsN FF fun _ _ _ _ _ _ us hl => match us, hl with | [_, _], _ => rfl, rfl, k_looked_at, s_looked_at, fun n ks order hw => kw_no (T := T) (by decide) hw⟩
include X Gx c in
theorem o_law_bag : ∃ (a : Addr) (fd : FuncData), DefOk K mg T F 31 "_law_bag" ["script", "at"] a fd i_law_bag := by
  obtain ⟨fd, FF⟩ := c.d.def_ 31 (d := d_law_bag) rfl
  exact ⟨_, fd, He.glo_ok X Gx (c.d.fact 31 (f := .glo "_law_bag") rfl), FF, FunD.bindsN FF fun _ _ _ _ _ _ us hl => match us, hl with | [_, _], _ => rfl, rfl, k_law_bag, s_law_bag, fun n ks order hw => kw_no (T := T) (by decide) hw⟩
include X Gx c in
theorem o_law_grab : ∃ (a : Addr) (fd : FuncData), DefOk K mg T F 32 "_law_grab" ["bag", "below"] a fd i_law_grab := by
  obtain ⟨fd, FF⟩ := c.d.def_ 32 (d := d_law_grab) rfl
  exact ⟨_, fd, He.glo_ok X Gx (c.d.fact 32 (f := .glo "_law_grab") rfl), FF, FunD.bindsN FF fun _ _ _ _ _ _ us hl => match us, hl with | [_, _], _ => rfl, rfl, k_law_grab, s_law_grab, fun n ks order hw => kw_no (T := T) (by decide) hw⟩
include X Gx c in
theorem o_law_equal : ∃ (a : Addr) (fd : FuncData), DefOk K mg T F 33 "_law_equal" ["found", "due"] a fd i_law_equal := by
  obtain ⟨fd, FF⟩ := c.d.def_ 33 (d := d_law_equal) rfl
  exact ⟨_, fd, He.glo_ok X Gx (c.d.fact 33 (f := .glo "_law_equal") rfl), FF, FunD.bindsN FF fun _ _ _ _ _ _ us hl => match us, hl with | [_, _], _ => rfl, rfl, k_law_equal, s_law_equal, fun n ks order hw => kw_no (T := T) (by decide) hw⟩
include X Gx c in
theorem o_law_use : ∃ (a : Addr) (fd : FuncData), DefOk K mg T F 34 "_law_use" ["form_here", "sign"] a fd i_law_use := by
  obtain ⟨fd, FF⟩ := c.d.def_ 34 (d := d_law_use) rfl
  exact ⟨_, fd, He.glo_ok X Gx (c.d.fact 34 (f := .glo "_law_use") rfl), FF, FunD.bindsN FF fun _ _ _ _ _ _ us hl => match us, hl with | [_, _], _ => rfl, rfl, k_law_use, s_law_use, fun n ks order hw => kw_no (T := T) (by decide) hw⟩
include X Gx c in
theorem o_law_long : ∃ (a : Addr) (fd : FuncData), DefOk K mg T F 35 "_law_long" ["form_here", "signs_here", "at"] a fd i_law_long := by
  obtain ⟨fd, FF⟩ := c.d.def_ 35 (d := d_law_long) rfl
  exact ⟨_, fd, He.glo_ok X Gx (c.d.fact 35 (f := .glo "_law_long") rfl), FF, FunD.bindsN FF fun _ _ _ _ _ _ us hl => match us, hl with | [_, _, _], _ => rfl, rfl, k_law_long, s_law_long, fun n ks order hw => kw_no (T := T) (by decide) hw⟩
include X Gx c in
theorem o_law_chunk : ∃ (a : Addr) (fd : FuncData), DefOk K mg T F 36 "_law_chunk" ["form_here", "signs_here", "at", "use_here"] a fd i_law_chunk := by
  obtain ⟨fd, FF⟩ := c.d.def_ 36 (d := d_law_chunk) rfl
  exact ⟨_, fd, He.glo_ok X Gx (c.d.fact 36 (f := .glo "_law_chunk") rfl), FF, FunD.bindsN FF fun _ _ _ _ _ _ us hl => match us, hl with | [_, _, _, _], _ => rfl, rfl, k_law_chunk, s_law_chunk, fun n ks order hw => kw_no (T := T) (by decide) hw⟩
include X Gx c in
theorem o_law_reading : ∃ (a : Addr) (fd : FuncData), DefOk K mg T F 37 "_law_reading" ["form_here", "signs_here"] a fd i_law_reading := by
  obtain ⟨fd, FF⟩ := c.d.def_ 37 (d := d_law_reading) rfl
  exact ⟨_, fd, He.glo_ok X Gx (c.d.fact 37 (f := .glo "_law_reading") rfl), FF, FunD.bindsN FF fun _ _ _ _ _ _ us hl => match us, hl with | [_, _], _ => rfl, rfl, k_law_reading, s_law_reading, fun n ks order hw => kw_no (T := T) (by decide) hw⟩
include X Gx c in
theorem o_law_long_file : ∃ (a : Addr) (fd : FuncData), DefOk K mg T F 38 "_law_long_file" ["bag", "form_here", "use_here"] a fd i_law_long_file := by
  obtain ⟨fd, FF⟩ := c.d.def_ 38 (d := d_law_long_file) rfl
  exact ⟨_, fd, He.glo_ok X Gx (c.d.fact 38 (f := .glo "_law_long_file") rfl), FF, FunD.bindsN FF fun _ _ _ _ _ _ us hl => match us, hl with | [_, _, _], _ => rfl, rfl, k_law_long_file, s_law_long_file, fun n ks order hw => kw_no (T := T) (by decide) hw⟩
include X Gx c in
theorem o_law_told : ∃ (a : Addr) (fd : FuncData), DefOk K mg T F 39 "_law_told" ["form_here", "row"] a fd i_law_told := by
  obtain ⟨fd, FF⟩ := c.d.def_ 39 (d := d_law_told) rfl
  exact ⟨_, fd, He.glo_ok X Gx (c.d.fact 39 (f := .glo "_law_told") rfl), FF, FunD.bindsN FF fun _ _ _ _ _ _ us hl => match us, hl with | [_, _], _ => rfl, rfl, k_law_told, s_law_told, fun n ks order hw => kw_no (T := T) (by decide) hw⟩
include X Gx c in
theorem o_law : ∃ (a : Addr) (fd : FuncData), DefOk K mg T F 40 "law" ["script"] a fd i_law := by
  obtain ⟨fd, FF⟩ := c.d.def_ 40 (d := d_law) rfl
  exact ⟨_, fd, He.glo_ok X Gx (c.d.fact 40 (f := .glo "law") rfl), FF, FunD.bindsN FF fun _ _ _ _ _ _ us hl => match us, hl with | [_], _ => rfl, rfl, k_law, s_law, fun n ks order hw => kw_no (T := T) (by decide) hw⟩
include X Gx c in
theorem def_at : ∀ (f : Nat) (x : Str) (ps : List Str), T.fns[f]? = some (x, ps) → ∃ (a : Addr) (fd : FuncData) (d : DefI), DefOk K mg T F f x ps a fd d
  | 0, x, ps, e => by
    obtain ⟨rfl, rfl⟩ := Prod.mk.inj (show (("is_integer" : Str), (["value"] : List Str)) = (x, ps) from Option.some.inj e)
    obtain ⟨a, fd, o⟩ := o_is_integer X Gx c
    exact ⟨a, fd, _, o⟩
  | 1, x, ps, e => by
    obtain ⟨rfl, rfl⟩ := Prod.mk.inj (show (("is_at_least" : Str), (["value", "least"] : List Str)) = (x, ps) from Option.some.inj e)
    obtain ⟨a, fd, o⟩ := o_is_at_least X Gx c
    exact ⟨a, fd, _, o⟩
  | 2, x, ps, e => by
    obtain ⟨rfl, rfl⟩ := Prod.mk.inj (show (("is_sign" : Str), (["base", "value"] : List Str)) = (x, ps) from Option.some.inj e)
    obtain ⟨a, fd, o⟩ := o_is_sign X Gx c
    exact ⟨a, fd, _, o⟩
  | 3, x, ps, e => by
    obtain ⟨rfl, rfl⟩ := Prod.mk.inj (show (("is_signs" : Str), (["base", "value"] : List Str)) = (x, ps) from Option.some.inj e)
    obtain ⟨a, fd, o⟩ := o_is_signs X Gx c
    exact ⟨a, fd, _, o⟩
  | 4, x, ps, e => by
    obtain ⟨rfl, rfl⟩ := Prod.mk.inj (show (("is_word_of" : Str), (["value", "words"] : List Str)) = (x, ps) from Option.some.inj e)
    obtain ⟨a, fd, o⟩ := o_is_word_of X Gx c
    exact ⟨a, fd, _, o⟩
  | 5, x, ps, e => by
    obtain ⟨rfl, rfl⟩ := Prod.mk.inj (show (("is_tags" : Str), (["base", "value"] : List Str)) = (x, ps) from Option.some.inj e)
    obtain ⟨a, fd, o⟩ := o_is_tags X Gx c
    exact ⟨a, fd, _, o⟩
  | 6, x, ps, e => by
    obtain ⟨rfl, rfl⟩ := Prod.mk.inj (show (("is_head" : Str), (["base", "value"] : List Str)) = (x, ps) from Option.some.inj e)
    obtain ⟨a, fd, o⟩ := o_is_head X Gx c
    exact ⟨a, fd, _, o⟩
  | 7, x, ps, e => by
    obtain ⟨rfl, rfl⟩ := Prod.mk.inj (show (("is_format" : Str), (["value"] : List Str)) = (x, ps) from Option.some.inj e)
    obtain ⟨a, fd, o⟩ := o_is_format X Gx c
    exact ⟨a, fd, _, o⟩
  | 8, x, ps, e => by
    obtain ⟨rfl, rfl⟩ := Prod.mk.inj (show (("is_file_of" : Str), (["form", "value"] : List Str)) = (x, ps) from Option.some.inj e)
    obtain ⟨a, fd, o⟩ := o_is_file_of X Gx c
    exact ⟨a, fd, _, o⟩
  | 9, x, ps, e => by
    obtain ⟨rfl, rfl⟩ := Prod.mk.inj (show (("check_format" : Str), (["form"] : List Str)) = (x, ps) from Option.some.inj e)
    obtain ⟨a, fd, o⟩ := o_check_format X Gx c
    exact ⟨a, fd, _, o⟩
  | 10, x, ps, e => by
    obtain ⟨rfl, rfl⟩ := Prod.mk.inj (show (("check_file" : Str), (["form", "file"] : List Str)) = (x, ps) from Option.some.inj e)
    obtain ⟨a, fd, o⟩ := o_check_file X Gx c
    exact ⟨a, fd, _, o⟩
  | 11, x, ps, e => by
    obtain ⟨rfl, rfl⟩ := Prod.mk.inj (show (("first_stand" : Str), (["form"] : List Str)) = (x, ps) from Option.some.inj e)
    obtain ⟨a, fd, o⟩ := o_first_stand X Gx c
    exact ⟨a, fd, _, o⟩
  | 12, x, ps, e => by
    obtain ⟨rfl, rfl⟩ := Prod.mk.inj (show (("use_at" : Str), (["form", "sign"] : List Str)) = (x, ps) from Option.some.inj e)
    obtain ⟨a, fd, o⟩ := o_use_at X Gx c
    exact ⟨a, fd, _, o⟩
  | 13, x, ps, e => by
    obtain ⟨rfl, rfl⟩ := Prod.mk.inj (show (("body_stand" : Str), (["use", "length"] : List Str)) = (x, ps) from Option.some.inj e)
    obtain ⟨a, fd, o⟩ := o_body_stand X Gx c
    exact ⟨a, fd, _, o⟩
  | 14, x, ps, e => by
    obtain ⟨rfl, rfl⟩ := Prod.mk.inj (show (("behind_length" : Str), (["form", "use", "sign"] : List Str)) = (x, ps) from Option.some.inj e)
    obtain ⟨a, fd, o⟩ := o_behind_length X Gx c
    exact ⟨a, fd, _, o⟩
  | 15, x, ps, e => by
    obtain ⟨rfl, rfl⟩ := Prod.mk.inj (show (("behind_second" : Str), (["form", "use", "first", "sign"] : List Str)) = (x, ps) from Option.some.inj e)
    obtain ⟨a, fd, o⟩ := o_behind_second X Gx c
    exact ⟨a, fd, _, o⟩
  | 16, x, ps, e => by
    obtain ⟨rfl, rfl⟩ := Prod.mk.inj (show (("behind_body" : Str), (["form", "stand", "sign"] : List Str)) = (x, ps) from Option.some.inj e)
    obtain ⟨a, fd, o⟩ := o_behind_body X Gx c
    exact ⟨a, fd, _, o⟩
  | 17, x, ps, e => by
    obtain ⟨rfl, rfl⟩ := Prod.mk.inj (show (("behind_head" : Str), (["form", "place", "sign"] : List Str)) = (x, ps) from Option.some.inj e)
    obtain ⟨a, fd, o⟩ := o_behind_head X Gx c
    exact ⟨a, fd, _, o⟩
  | 18, x, ps, e => by
    obtain ⟨rfl, rfl⟩ := Prod.mk.inj (show (("behind_tag" : Str), (["form", "sign"] : List Str)) = (x, ps) from Option.some.inj e)
    obtain ⟨a, fd, o⟩ := o_behind_tag X Gx c
    exact ⟨a, fd, _, o⟩
  | 19, x, ps, e => by
    obtain ⟨rfl, rfl⟩ := Prod.mk.inj (show (("step" : Str), (["form", "stand", "sign"] : List Str)) = (x, ps) from Option.some.inj e)
    obtain ⟨a, fd, o⟩ := o_step X Gx c
    exact ⟨a, fd, _, o⟩
  | 20, x, ps, e => by
    obtain ⟨rfl, rfl⟩ := Prod.mk.inj (show (("is_ending" : Str), (["form", "stand"] : List Str)) = (x, ps) from Option.some.inj e)
    obtain ⟨a, fd, o⟩ := o_is_ending X Gx c
    exact ⟨a, fd, _, o⟩
  | 21, x, ps, e => by
    obtain ⟨rfl, rfl⟩ := Prod.mk.inj (show (("is_looking" : Str), (["form", "stand"] : List Str)) = (x, ps) from Option.some.inj e)
    obtain ⟨a, fd, o⟩ := o_is_looking X Gx c
    exact ⟨a, fd, _, o⟩
  | 22, x, ps, e => by
    obtain ⟨rfl, rfl⟩ := Prod.mk.inj (show (("word_at" : Str), (["stand"] : List Str)) = (x, ps) from Option.some.inj e)
    obtain ⟨a, fd, o⟩ := o_word_at X Gx c
    exact ⟨a, fd, _, o⟩
  | 23, x, ps, e => by
    obtain ⟨rfl, rfl⟩ := Prod.mk.inj (show (("refusal_of" : Str), (["form", "file"] : List Str)) = (x, ps) from Option.some.inj e)
    obtain ⟨a, fd, o⟩ := o_refusal_of X Gx c
    exact ⟨a, fd, _, o⟩
  | 24, x, ps, e => by
    obtain ⟨rfl, rfl⟩ := Prod.mk.inj (show (("told_at" : Str), (["form", "stand", "sign", "told"] : List Str)) = (x, ps) from Option.some.inj e)
    obtain ⟨a, fd, o⟩ := o_told_at X Gx c
    exact ⟨a, fd, _, o⟩
  | 25, x, ps, e => by
    obtain ⟨rfl, rfl⟩ := Prod.mk.inj (show (("told_in" : Str), (["form", "signs"] : List Str)) = (x, ps) from Option.some.inj e)
    obtain ⟨a, fd, o⟩ := o_told_in X Gx c
    exact ⟨a, fd, _, o⟩
  | 26, x, ps, e => by
    obtain ⟨rfl, rfl⟩ := Prod.mk.inj (show (("looked_in" : Str), (["form", "file"] : List Str)) = (x, ps) from Option.some.inj e)
    obtain ⟨a, fd, o⟩ := o_looked_in X Gx c
    exact ⟨a, fd, _, o⟩
  | 27, x, ps, e => by
    obtain ⟨rfl, rfl⟩ := Prod.mk.inj (show (("check_read" : Str), (["form", "file"] : List Str)) = (x, ps) from Option.some.inj e)
    obtain ⟨a, fd, o⟩ := o_check_read X Gx c
    exact ⟨a, fd, _, o⟩
  | 28, x, ps, e => by
    obtain ⟨rfl, rfl⟩ := Prod.mk.inj (show (("read" : Str), (["form", "file"] : List Str)) = (x, ps) from Option.some.inj e)
    obtain ⟨a, fd, o⟩ := o_read X Gx c
    exact ⟨a, fd, _, o⟩
  | 29, x, ps, e => by
    obtain ⟨rfl, rfl⟩ := Prod.mk.inj (show (("refusal" : Str), (["form", "file"] : List Str)) = (x, ps) from Option.some.inj e)
    obtain ⟨a, fd, o⟩ := o_refusal X Gx c
    exact ⟨a, fd, _, o⟩
  | 30, x, ps, e => by
    obtain ⟨rfl, rfl⟩ := Prod.mk.inj (show (("looked_at" : Str), (["form", "file"] : List Str)) = (x, ps) from Option.some.inj e)
    obtain ⟨a, fd, o⟩ := o_looked_at X Gx c
    exact ⟨a, fd, _, o⟩
  | 31, x, ps, e => by
    obtain ⟨rfl, rfl⟩ := Prod.mk.inj (show (("_law_bag" : Str), (["script", "at"] : List Str)) = (x, ps) from Option.some.inj e)
    obtain ⟨a, fd, o⟩ := o_law_bag X Gx c
    exact ⟨a, fd, _, o⟩
  | 32, x, ps, e => by
    obtain ⟨rfl, rfl⟩ := Prod.mk.inj (show (("_law_grab" : Str), (["bag", "below"] : List Str)) = (x, ps) from Option.some.inj e)
    obtain ⟨a, fd, o⟩ := o_law_grab X Gx c
    exact ⟨a, fd, _, o⟩
  | 33, x, ps, e => by
    obtain ⟨rfl, rfl⟩ := Prod.mk.inj (show (("_law_equal" : Str), (["found", "due"] : List Str)) = (x, ps) from Option.some.inj e)
    obtain ⟨a, fd, o⟩ := o_law_equal X Gx c
    exact ⟨a, fd, _, o⟩
  | 34, x, ps, e => by
    obtain ⟨rfl, rfl⟩ := Prod.mk.inj (show (("_law_use" : Str), (["form_here", "sign"] : List Str)) = (x, ps) from Option.some.inj e)
    obtain ⟨a, fd, o⟩ := o_law_use X Gx c
    exact ⟨a, fd, _, o⟩
  | 35, x, ps, e => by
    obtain ⟨rfl, rfl⟩ := Prod.mk.inj (show (("_law_long" : Str), (["form_here", "signs_here", "at"] : List Str)) = (x, ps) from Option.some.inj e)
    obtain ⟨a, fd, o⟩ := o_law_long X Gx c
    exact ⟨a, fd, _, o⟩
  | 36, x, ps, e => by
    obtain ⟨rfl, rfl⟩ := Prod.mk.inj (show (("_law_chunk" : Str), (["form_here", "signs_here", "at", "use_here"] : List Str)) = (x, ps) from Option.some.inj e)
    obtain ⟨a, fd, o⟩ := o_law_chunk X Gx c
    exact ⟨a, fd, _, o⟩
  | 37, x, ps, e => by
    obtain ⟨rfl, rfl⟩ := Prod.mk.inj (show (("_law_reading" : Str), (["form_here", "signs_here"] : List Str)) = (x, ps) from Option.some.inj e)
    obtain ⟨a, fd, o⟩ := o_law_reading X Gx c
    exact ⟨a, fd, _, o⟩
  | 38, x, ps, e => by
    obtain ⟨rfl, rfl⟩ := Prod.mk.inj (show (("_law_long_file" : Str), (["bag", "form_here", "use_here"] : List Str)) = (x, ps) from Option.some.inj e)
    obtain ⟨a, fd, o⟩ := o_law_long_file X Gx c
    exact ⟨a, fd, _, o⟩
  | 39, x, ps, e => by
    obtain ⟨rfl, rfl⟩ := Prod.mk.inj (show (("_law_told" : Str), (["form_here", "row"] : List Str)) = (x, ps) from Option.some.inj e)
    obtain ⟨a, fd, o⟩ := o_law_told X Gx c
    exact ⟨a, fd, _, o⟩
  | 40, x, ps, e => by
    obtain ⟨rfl, rfl⟩ := Prod.mk.inj (show (("law" : Str), (["script"] : List Str)) = (x, ps) from Option.some.inj e)
    obtain ⟨a, fd, o⟩ := o_law X Gx c
    exact ⟨a, fd, _, o⟩
  | n + 41, x, ps, e => by
    have e : (none : Option (Str × List Str)) = some (x, ps) := e
    cases e
include X Gx c in
theorem x_of (P : Program) (base : Heap) : ∀ (j : Nat) (I : ExI), T.excs[j]? = some I → ExcAt P w K mg base I
  | 0, I, e => by
    obtain rfl := Option.some.inj e
    obtain ⟨fd, FF⟩ := c.d.def_ 41 (d := dx_Refused) rfl
    exact excB_ok X Gx (c.x (by simp [T])) FF xs_Refused xb_Refused rfl (by decide) (by decide) (by decide) (FunD.bindsN FF fun _ _ _ _ _ _ us hl => match us, hl with | [_, _, _], _ => rfl)
  | n + 1, I, e => by
    have e : (none : Option ExI) = some I := e
    cases e
include X Gx c in
theorem sys (P : Program) (base : Heap) : Sys P w K mg base T G F := ⟨def_at X Gx c, glo_of X Gx c, bl_of X Gx c.d, tab_of X Gx c, x_of X Gx c P base, by decide⟩
end
def DEPTH : Nat := 30
theorem holds_of (law_pure : ∀ ns : List Int, ns.length ≤ 63 → evCl G F DEPTH 40 [(false, .lst (ns.map PV.int))] = some (.fz (.bl true), [])) : PySem.Challenge.rw_bothreaders_k13_long_bodies_and_lengths.Holds := by
  w_on; o_law
  refine HandSHeadRun.head_any (r := RowW) (q := PySem.W.view RowW.prog [67]) (H := hk) (ob := ob) (M := 6000) (loose := loose) (d := HandSHeadRun.topDef RowW.prog 67) (kwd := []) ob_eq
    (by kernel_rfl) (fun s => by kernel_rfl) run (by kernel_rfl) (by kernel_rfl) (by kernel_rfl) (by rfl) (by first | assumption | decide +kernel) (by decide +kernel) ⟨rfl, rfl, rfl, rfl, rfl, by decide +kernel⟩ ?hw ?hc
  case hw => w_witness2
  case hc =>
    refine L2.walk_ofE (l := PySem.Challenge.rw_bothreaders_k13_long_bodies_and_lengths) (n := 63) (k := DEPTH) (x := "script") (CX := L2.CX0) rfl (by decide) (by kernel_rfl) ⟨rfl, by decide, by decide⟩ ?F (fun _ _ _ _ z => z)
    intro w mg fa' h Y Gx hmg0
    obtain ⟨K, X, c⟩ := Y
    have hmg : mg ("law" : Str) = some (.ref fa') := by
      have e : (HandSHeadRun.topDef RowW.prog 67).name = ("law" : Str) := by kernel_rfl
      rw [← e]
      exact hmg0
    obtain ⟨a, fd, o⟩ := o_law X Gx c
    have ea : fa' = a := by
      have := hmg.symm.trans o.mg_
      cases this
      rfl
    subst ea
    refine ⟨K, fd, spLaw K 63, X, fun s v => FunD.bindsA (ps := ["script"]) o.fun_ (fun _ _ _ _ _ _ us hl => match us, hl with | [_], _ => rfl) s [v] rfl, fun H a ns hl _ hS => ⟨a, ns, rfl, hS, hl, fun _ => rfl⟩, fun base _ _ => ?_⟩
    exact ((sys X Gx c RowW.prog base).run DEPTH 40 _ _ _ fd _ o).imp (law_sp law_pure)
end EV.Law
set_option linter.all false
set_option maxRecDepth 100000
namespace EV.Law
open PySem EV
/-! ### encodings -/
def isInt : PV → Bool
  | .int _ => true
  | _ => false
inductive W | one | high | low
  deriving DecidableEq
def W.str : W → Str
  | .one => "one" | .high => "high" | .low => "low"
inductive U | keep | check | skip | fin | stop
  deriving DecidableEq
def U.str : U → Str
  | .keep => "keep" | .check => "check" | .skip => "skip" | .fin => "end" | .stop => "stop"
structure Fm where
  b : Int
  hd : List (Option Int)
  w : W
  m : Int
  tg : List (Int × U)
  o : Bool
def mkO : Option Int → PV
  | none => .non
  | some i => .int i
def row (r : Int × U) : PV := .tup [.int r.1, .str r.2.str]
def oth (o : Bool) : Str := if o then "skip" else "refuse"
def Fm.pv (f : Fm) : PV := .tup [.int f.b, .tup (f.hd.map mkO), .str f.w.str, .int f.m, .tup (f.tg.map row), .str (oth f.o)]
def sg (xs : List Int) : PV := .tup (xs.map PV.int)
def inB (b x : Int) : Bool := decide (0 ≤ x) && decide (x < b)
def okM (b : Int) : Option Int → Bool
  | none => true
  | some i => inB b i
def sortedT : List (Int × U) → Bool
  | [] => true
  | [_] => true
  | a :: b :: r => decide (a.1 < b.1) && sortedT (b :: r)
structure Fm.Ok (f : Fm) : Prop where
  b1 : 2 ≤ f.b
  b2 : f.b ≤ 256
  hd : ∀ x ∈ f.hd, okM f.b x = true
  hl : f.hd.length ≤ 1000
  m1 : 0 ≤ f.m
  m2 : f.m ≤ 65535
  tg : ∀ x ∈ f.tg, inB f.b x.1 = true
  tl : f.tg.length ≤ 1000
  st : sortedT f.tg = true
/-- a slot that may be filled -/
def sl : Option PV → Slot
  | none => .un
  | some v => .fz v
/-! ### what the formats' defs answer -/
theorem e_is_integer (k : Nat) (v : PV) : evCl G F (k + 1) c_is_integer [(false, v)] = some (.fz (.bl (isInt v)), []) := by
  cases v <;> rfl
theorem e_is_at_least (k : Nat) (v l : Int) : evCl G F (k + 2) c_is_at_least [(false, .int v), (false, .int l)] = some (.fz (.bl (decide (l ≤ v))), []) := by
  rfl
theorem e_is_sign (k : Nat) (b x : Int) : evCl G F (k + 2) c_is_sign [(false, .int b), (false, .int x)] = some (.fz (.bl (inB b x)), []) := by
  refine (u_is_sign (k + 1) _).trans ?_
  unfold inB
  by_cases h0 : 0 ≤ x
  · simp [f_is_sign, fn_eq, startE, slotOf, q_nil, q_cons, th_nx, th_rt, th_br, th_ct, th_if, s_asgN, s_asgT, s_par, p_nil, p_cons, s_expr, s_ret, s_retN, s_ite, s_setIdx, s_app, setAt, appTo, x_lit, x_glo, x_var, x_tup, x_lst, x_bin, x_neg, x_cmp, x_chain, x_ands, x_ors, x_and1, x_or1, andK_bl, orK_bl, x_and2, x_or2, x_not, x_ite, x_idx, sliceOf, x_slc, x_call, x_callK, x_bi, x_isi, x_rng1, x_rng2, a_nil, a_val, a_ref, k_nil, k_cons, o_none, o_some, val_fz, val_fr, d_slot, d_val, ds_nil, ds_cons, t_some, bw, use, peek, put, modify, truthy, isStr, avGet, avPut, slots, vals?, cmpOp, ords, isIt, isNon, within, b_add, b_sub, b_catT, b_catL, bias, biEv, tyOf, flRv, finE, mkSeq, PV.int?, PV.seq?, PV.lst?, ints?, bindP, bindPs, rangeItems, pick, eo_ii, eo_ss, eo_bb, eo_sn, eo_in, eo_ni, eo_ns, eo_nn, pq_ii, pq_ss, pq_bb, pq_in, pq_ni, pq_sn, pq_ns, pq_nn, e_is_integer, isInt, h0]
  · simp [f_is_sign, fn_eq, startE, slotOf, q_nil, q_cons, th_nx, th_rt, th_br, th_ct, th_if, s_asgN, s_asgT, s_par, p_nil, p_cons, s_expr, s_ret, s_retN, s_ite, s_setIdx, s_app, setAt, appTo, x_lit, x_glo, x_var, x_tup, x_lst, x_bin, x_neg, x_cmp, x_chain, x_ands, x_ors, x_and1, x_or1, andK_bl, orK_bl, x_and2, x_or2, x_not, x_ite, x_idx, sliceOf, x_slc, x_call, x_callK, x_bi, x_isi, x_rng1, x_rng2, a_nil, a_val, a_ref, k_nil, k_cons, o_none, o_some, val_fz, val_fr, d_slot, d_val, ds_nil, ds_cons, t_some, bw, use, peek, put, modify, truthy, isStr, avGet, avPut, slots, vals?, cmpOp, ords, isIt, isNon, within, b_add, b_sub, b_catT, b_catL, bias, biEv, tyOf, flRv, finE, mkSeq, PV.int?, PV.seq?, PV.lst?, ints?, bindP, bindPs, rangeItems, pick, eo_ii, eo_ss, eo_bb, eo_sn, eo_in, eo_ni, eo_ns, eo_nn, pq_ii, pq_ss, pq_bb, pq_in, pq_ni, pq_sn, pq_ns, pq_nn, e_is_integer, isInt, h0]
theorem bools_map {α : Type} (f : α → Bool) : ∀ xs : List α, bools? (xs.map fun x => PV.bl (f x)) = some (xs.map f)
  | [] => rfl
  | x :: xs => by
    show (bools? (xs.map fun x => PV.bl (f x))).map (f x :: ·) = _
    rw [bools_map f xs]; rfl
theorem all_id {α : Type} (f : α → Bool) (xs : List α) : (xs.map f).all id = xs.all f := by
  induction xs with
  | nil => rfl
  | cons x xs ih => simp
theorem e_is_signs (k : Nat) (b : Int) (xs : List Int) (hl : xs.length ≤ LIM) : evCl G F (k + 3) c_is_signs [(false, .int b), (false, sg xs)] = some (.fz (.bl (xs.all (inB b))), []) := by
  refine (u_is_signs (k + 2) _).trans ?_
  have hc : evE G (evCl G F (k + 2)) (.comp (.call c_is_sign [(.val, (.var 0)), (.val, (.var 2))]) [2] (.name 2) (.ex (.var 1)) []) [.fz (.int b), .fz (.tup (xs.map PV.int)), .un] = some (.fr (.lst (xs.map fun x => PV.bl (inB b x))), [.fz (.int b), .fz (.tup (xs.map PV.int)), .un]) :=
    x_comp rfl rfl (comp_map xs [] (fun x _ => by simp [cT, evTs, wipe, fn_eq, startE, slotOf, q_nil, q_cons, th_nx, th_rt, th_br, th_ct, th_if, s_asgN, s_asgT, s_par, p_nil, p_cons, s_expr, s_ret, s_retN, s_ite, s_setIdx, s_app, setAt, appTo, x_lit, x_glo, x_var, x_tup, x_lst, x_bin, x_neg, x_cmp, x_chain, x_ands, x_ors, x_and1, x_or1, andK_bl, orK_bl, x_and2, x_or2, x_not, x_ite, x_idx, sliceOf, x_slc, x_call, x_callK, x_bi, x_isi, x_rng1, x_rng2, a_nil, a_val, a_ref, k_nil, k_cons, o_none, o_some, val_fz, val_fr, d_slot, d_val, ds_nil, ds_cons, t_some, bw, use, peek, put, modify, truthy, isStr, avGet, avPut, slots, vals?, cmpOp, ords, isIt, isNon, within, b_add, b_sub, b_catT, b_catL, bias, biEv, tyOf, flRv, finE, mkSeq, PV.int?, PV.seq?, PV.lst?, ints?, bindP, bindPs, rangeItems, pick, eo_ii, eo_ss, eo_bb, eo_sn, eo_in, eo_ni, eo_ns, eo_nn, pq_ii, pq_ss, pq_bb, pq_in, pq_ni, pq_sn, pq_ns, pq_nn, e_is_sign]) (by simpa using hl)) rfl
  simp [f_is_signs, fn_eq, startE, slotOf, q_nil, q_cons, th_nx, th_rt, th_br, th_ct, th_if, s_asgN, s_asgT, s_par, p_nil, p_cons, s_expr, s_ret, s_retN, s_ite, s_setIdx, s_app, setAt, appTo, x_lit, x_glo, x_var, x_tup, x_lst, x_bin, x_neg, x_cmp, x_chain, x_ands, x_ors, x_and1, x_or1, andK_bl, orK_bl, x_and2, x_or2, x_not, x_ite, x_idx, sliceOf, x_slc, x_call, x_callK, x_bi, x_isi, x_rng1, x_rng2, a_nil, a_val, a_ref, k_nil, k_cons, o_none, o_some, val_fz, val_fr, d_slot, d_val, ds_nil, ds_cons, t_some, bw, use, peek, put, modify, truthy, isStr, avGet, avPut, slots, vals?, cmpOp, ords, isIt, isNon, within, b_add, b_sub, b_catT, b_catL, bias, biEv, tyOf, flRv, finE, mkSeq, PV.int?, PV.seq?, PV.lst?, ints?, bindP, bindPs, rangeItems, pick, eo_ii, eo_ss, eo_bb, eo_sn, eo_in, eo_ni, eo_ns, eo_nn, pq_ii, pq_ss, pq_bb, pq_in, pq_ni, pq_sn, pq_ns, pq_nn, sg, hc, bools_map, all_id]

theorem e_uses (k : Nat) (u : U) : evCl G F (k + 1) c_is_word_of [(false, .str u.str), (false, .tup [.str "keep", .str "check", .str "skip", .str "end", .str "stop"])] = some (.fz (.bl true), []) := by
  cases u <;> rfl
theorem e_widths (k : Nat) (w : W) : evCl G F (k + 1) c_is_word_of [(false, .str w.str), (false, .tup [.str "one", .str "high", .str "low"])] = some (.fz (.bl true), []) := by
  cases w <;> rfl
theorem e_others (k : Nat) (o : Bool) : evCl G F (k + 1) c_is_word_of [(false, .str (oth o)), (false, .tup [.str "skip", .str "refuse"])] = some (.fz (.bl true), []) := by
  cases o <;> rfl
theorem e_is_head (k : Nat) (b : Int) (xs : List (Option Int)) (hl : xs.length ≤ LIM) : evCl G F (k + 3) c_is_head [(false, .int b), (false, .tup (xs.map mkO))] = some (.fz (.bl (xs.all (okM b))), []) := by
  refine (u_is_head (k + 2) _).trans ?_
  have hc : evE G (evCl G F (k + 2)) (.comp (.ors [(.cmp .is (.var 2) (.lit .non)), (.call c_is_sign [(.val, (.var 0)), (.val, (.var 2))])]) [2] (.name 2) (.ex (.var 1)) []) [.fz (.int b), .fz (.tup (xs.map mkO)), .un] = some (.fr (.lst (xs.map fun x => PV.bl (okM b x))), [.fz (.int b), .fz (.tup (xs.map mkO)), .un]) :=
    x_comp rfl rfl (comp_map xs [] (fun x _ => by cases x <;> simp [cT, evTs, wipe, fn_eq, startE, slotOf, q_nil, q_cons, th_nx, th_rt, th_br, th_ct, th_if, s_asgN, s_asgT, s_par, p_nil, p_cons, s_expr, s_ret, s_retN, s_ite, s_setIdx, s_app, setAt, appTo, x_lit, x_glo, x_var, x_tup, x_lst, x_bin, x_neg, x_cmp, x_chain, x_ands, x_ors, x_and1, x_or1, andK_bl, orK_bl, x_and2, x_or2, x_not, x_ite, x_idx, sliceOf, x_slc, x_call, x_callK, x_bi, x_isi, x_rng1, x_rng2, a_nil, a_val, a_ref, k_nil, k_cons, o_none, o_some, val_fz, val_fr, d_slot, d_val, ds_nil, ds_cons, t_some, bw, use, peek, put, modify, truthy, isStr, avGet, avPut, slots, vals?, cmpOp, ords, isIt, isNon, within, b_add, b_sub, b_catT, b_catL, bias, biEv, tyOf, flRv, finE, mkSeq, PV.int?, PV.seq?, PV.lst?, ints?, bindP, bindPs, rangeItems, pick, eo_ii, eo_ss, eo_bb, eo_sn, eo_in, eo_ni, eo_ns, eo_nn, pq_ii, pq_ss, pq_bb, pq_in, pq_ni, pq_sn, pq_ns, pq_nn, e_is_sign, mkO, okM]) (by simpa using hl)) rfl
  simp [f_is_head, fn_eq, startE, slotOf, q_nil, q_cons, th_nx, th_rt, th_br, th_ct, th_if, s_asgN, s_asgT, s_par, p_nil, p_cons, s_expr, s_ret, s_retN, s_ite, s_setIdx, s_app, setAt, appTo, x_lit, x_glo, x_var, x_tup, x_lst, x_bin, x_neg, x_cmp, x_chain, x_ands, x_ors, x_and1, x_or1, andK_bl, orK_bl, x_and2, x_or2, x_not, x_ite, x_idx, sliceOf, x_slc, x_call, x_callK, x_bi, x_isi, x_rng1, x_rng2, a_nil, a_val, a_ref, k_nil, k_cons, o_none, o_some, val_fz, val_fr, d_slot, d_val, ds_nil, ds_cons, t_some, bw, use, peek, put, modify, truthy, isStr, avGet, avPut, slots, vals?, cmpOp, ords, isIt, isNon, within, b_add, b_sub, b_catT, b_catL, bias, biEv, tyOf, flRv, finE, mkSeq, PV.int?, PV.seq?, PV.lst?, ints?, bindP, bindPs, rangeItems, pick, eo_ii, eo_ss, eo_bb, eo_sn, eo_in, eo_ni, eo_ns, eo_nn, pq_ii, pq_ss, pq_bb, pq_in, pq_ni, pq_sn, pq_ns, pq_nn, hc, bools_map, all_id]
/-- the tags' loop finds no fault -/
theorem tags_loop (k : Nat) (b : Int) (tv : PV) (s3 : Slot) : ∀ (tg : List (Int × U)) (o : Option PV), (∀ x ∈ tg, inB b x.1 = true) → ∃ o', forLoop (fT G (evCl G F (k + 2)) (.name 2)
      [.ite (.ors [(.not (.isi (.var 2) [.tuple])), (.cmp .ne (.bi .len [(.ref, (.var 2))]) (.lit (.int 2))), (.not (.call c_is_sign [(.val, (.var 0)), (.val, (.idx (.var 2) (.lit (.int 0))))])), (.not (.call c_is_word_of [(.val, (.idx (.var 2) (.lit (.int 1)))), (.val, (.glo g_USES))]))])
       [.ret (.lit (.bl false))]
       []]) (tg.map row) [.fz (.int b), .fz tv, sl o, s3] = some (.nx, [.fz (.int b), .fz tv, sl o', s3])
  | [], o, _ => ⟨o, rfl⟩
  | x :: tg, o, h => by
    have h1 : inB b x.1 = true := h x List.mem_cons_self
    obtain ⟨o', ih⟩ := tags_loop k b tv s3 tg (some (row x)) fun y hy => h y (List.mem_cons_of_mem _ hy)
    refine ⟨o', ?_⟩
    have ht : fT G (evCl G F (k + 2)) (.name 2)
      [.ite (.ors [(.not (.isi (.var 2) [.tuple])), (.cmp .ne (.bi .len [(.ref, (.var 2))]) (.lit (.int 2))), (.not (.call c_is_sign [(.val, (.var 0)), (.val, (.idx (.var 2) (.lit (.int 0))))])), (.not (.call c_is_word_of [(.val, (.idx (.var 2) (.lit (.int 1)))), (.val, (.glo g_USES))]))])
       [.ret (.lit (.bl false))]
       []] (row x) [.fz (.int b), .fz tv, sl o, s3] = some (.nx, [.fz (.int b), .fz tv, sl (some (row x)), s3]) := by
      cases o <;> simp [fT, fn_eq, startE, slotOf, q_nil, q_cons, th_nx, th_rt, th_br, th_ct, th_if, s_asgN, s_asgT, s_par, p_nil, p_cons, s_expr, s_ret, s_retN, s_ite, s_setIdx, s_app, setAt, appTo, x_lit, x_glo, x_var, x_tup, x_lst, x_bin, x_neg, x_cmp, x_chain, x_ands, x_ors, x_and1, x_or1, andK_bl, orK_bl, x_and2, x_or2, x_not, x_ite, x_idx, sliceOf, x_slc, x_call, x_callK, x_bi, x_isi, x_rng1, x_rng2, a_nil, a_val, a_ref, k_nil, k_cons, o_none, o_some, val_fz, val_fr, d_slot, d_val, ds_nil, ds_cons, t_some, bw, use, peek, put, modify, truthy, isStr, avGet, avPut, slots, vals?, cmpOp, ords, isIt, isNon, within, b_add, b_sub, b_catT, b_catL, bias, biEv, tyOf, flRv, finE, mkSeq, PV.int?, PV.seq?, PV.lst?, ints?, bindP, bindPs, rangeItems, pick, eo_ii, eo_ss, eo_bb, eo_sn, eo_in, eo_ni, eo_ns, eo_nn, pq_ii, pq_ss, pq_bb, pq_in, pq_ni, pq_sn, pq_ns, pq_nn, sl, row, ixN, e_is_sign, h1, v_USES, e_uses]
    rw [List.map_cons, forLoop, ht]
    exact ih
theorem zip_sorted : ∀ tg : List (Int × U), sortedT tg = true → (tg.zip (tg.drop 1)).all (fun p => decide (p.1.1 < p.2.1)) = true
  | [], _ => rfl
  | [_], _ => rfl
  | a :: b :: r, h => by
    have h' : decide (a.1 < b.1) = true ∧ sortedT (b :: r) = true := by
      have : (decide (a.1 < b.1) && sortedT (b :: r)) = true := h
      simpa using this
    have ih := zip_sorted (b :: r) h'.2
    simp only [List.drop_succ_cons, List.drop_zero, List.zip_cons_cons, List.all_cons] at ih ⊢
    rw [h'.1, ih]; rfl
theorem zipW_map (tg us : List (Int × U)) : List.zipWith (fun x y => PV.tup [x, y]) (tg.map row) (us.map row) = (tg.zip us).map fun p => PV.tup [row p.1, row p.2] := by
  induction tg generalizing us with
  | nil => rfl
  | cons x tg ih => cases us with
    | nil => rfl
    | cons y us => simp [ih]
theorem cut1 {α : Type} (xs : List α) : cut xs (some 1) none = xs.drop 1 := by
  unfold cut sIx
  cases xs with
  | nil => rfl
  | cons x xs => simp
theorem e_is_tags (k : Nat) (b : Int) (tg : List (Int × U)) (hl : tg.length ≤ 1000) (h : ∀ x ∈ tg, inB b x.1 = true) (hs : sortedT tg = true) : evCl G F (k + 3) c_is_tags [(false, .int b), (false, .tup (tg.map row))] = some (.fz (.bl true), []) := by
  refine (u_is_tags (k + 2) _).trans ?_
  obtain ⟨o', hlp⟩ := tags_loop k b (.tup (tg.map row)) .un tg none h
  have hc : evE G (evCl G F (k + 2)) (.comp (.cmp .lt (.idx (.var 2) (.lit (.int 0))) (.idx (.var 3) (.lit (.int 0)))) [2, 3] (.tup [(.name 2), (.name 3)]) (.zip (.var 1) (.slc (.var 1) (some (.lit (.int 1))) none)) []) [.fz (.int b), .fz (.tup (tg.map row)), sl o', .un] =
      some (.fr (.lst ((tg.zip (tg.drop 1)).map fun p => PV.bl (decide (p.1.1 < p.2.1)))), [.fz (.int b), .fz (.tup (tg.map row)), sl o', .un]) := by
    refine x_comp (ρ1 := [.fz (.int b), .fz (.tup (tg.map row)), sl o', .un]) (ρ2 := [.fz (.int b), .fz (.tup (tg.map row)), .un, .un]) (items := (tg.zip (tg.drop 1)).map fun p => PV.tup [row p.1, row p.2]) ?_ ?_ ?_ ?_
    · rw [← zipW_map]
      simp [i_zip, fn_eq, startE, slotOf, q_nil, q_cons, th_nx, th_rt, th_br, th_ct, th_if, s_asgN, s_asgT, s_par, p_nil, p_cons, s_expr, s_ret, s_retN, s_ite, s_setIdx, s_app, setAt, appTo, x_lit, x_glo, x_var, x_tup, x_lst, x_bin, x_neg, x_cmp, x_chain, x_ands, x_ors, x_and1, x_or1, andK_bl, orK_bl, x_and2, x_or2, x_not, x_ite, x_idx, sliceOf, x_slc, x_call, x_callK, x_bi, x_isi, x_rng1, x_rng2, a_nil, a_val, a_ref, k_nil, k_cons, o_none, o_some, val_fz, val_fr, d_slot, d_val, ds_nil, ds_cons, t_some, bw, use, peek, put, modify, truthy, isStr, avGet, avPut, slots, vals?, cmpOp, ords, isIt, isNon, within, b_add, b_sub, b_catT, b_catL, bias, biEv, tyOf, flRv, finE, mkSeq, PV.int?, PV.seq?, PV.lst?, ints?, bindP, bindPs, rangeItems, pick, eo_ii, eo_ss, eo_bb, eo_sn, eo_in, eo_ni, eo_ns, eo_nn, pq_ii, pq_ss, pq_bb, pq_in, pq_ni, pq_sn, pq_ns, pq_nn, cut1, List.map_drop]
    · cases o' <;> rfl
    · have hw : wipe [.fz (.int b), .fz (.tup (tg.map row)), sl o', .un] [2, 3] = [.fz (.int b), .fz (.tup (tg.map row)), .un, .un] := by cases o' <;> rfl
      rw [hw]
      refine comp_map (f := fun (p : (Int × U) × (Int × U)) => PV.bl (decide (p.1.1 < p.2.1))) _ [] (fun x _ => ?_) ?_
      · simp [cT, evTs, wipe, fn_eq, startE, slotOf, q_nil, q_cons, th_nx, th_rt, th_br, th_ct, th_if, s_asgN, s_asgT, s_par, p_nil, p_cons, s_expr, s_ret, s_retN, s_ite, s_setIdx, s_app, setAt, appTo, x_lit, x_glo, x_var, x_tup, x_lst, x_bin, x_neg, x_cmp, x_chain, x_ands, x_ors, x_and1, x_or1, andK_bl, orK_bl, x_and2, x_or2, x_not, x_ite, x_idx, sliceOf, x_slc, x_call, x_callK, x_bi, x_isi, x_rng1, x_rng2, a_nil, a_val, a_ref, k_nil, k_cons, o_none, o_some, val_fz, val_fr, d_slot, d_val, ds_nil, ds_cons, t_some, bw, use, peek, put, modify, truthy, isStr, avGet, avPut, slots, vals?, cmpOp, ords, isIt, isNon, within, b_add, b_sub, b_catT, b_catL, bias, biEv, tyOf, flRv, finE, mkSeq, PV.int?, PV.seq?, PV.lst?, ints?, bindP, bindPs, rangeItems, pick, eo_ii, eo_ss, eo_bb, eo_sn, eo_in, eo_ni, eo_ns, eo_nn, pq_ii, pq_ss, pq_bb, pq_in, pq_ni, pq_sn, pq_ns, pq_nn, row, ixN]
      · simp [List.length_zip, LIM]; omega
    · cases o' <;> rfl
  have hz := zip_sorted tg hs
  have hlp : forLoop _ (tg.map row) [.fz (.int b), .fz (.tup (tg.map row)), .un, .un] = some (.nx, [.fz (.int b), .fz (.tup (tg.map row)), sl o', .un]) := hlp
  simp [f_is_tags, fn_eq, startE, slotOf, q_nil, q_cons, th_nx, th_rt, th_br, th_ct, th_if, s_asgN, s_asgT, s_par, p_nil, p_cons, s_expr, s_ret, s_retN, s_ite, s_setIdx, s_app, setAt, appTo, x_lit, x_glo, x_var, x_tup, x_lst, x_bin, x_neg, x_cmp, x_chain, x_ands, x_ors, x_and1, x_or1, andK_bl, orK_bl, x_and2, x_or2, x_not, x_ite, x_idx, sliceOf, x_slc, x_call, x_callK, x_bi, x_isi, x_rng1, x_rng2, a_nil, a_val, a_ref, k_nil, k_cons, o_none, o_some, val_fz, val_fr, d_slot, d_val, ds_nil, ds_cons, t_some, bw, use, peek, put, modify, truthy, isStr, avGet, avPut, slots, vals?, cmpOp, ords, isIt, isNon, within, b_add, b_sub, b_catT, b_catL, bias, biEv, tyOf, flRv, finE, mkSeq, PV.int?, PV.seq?, PV.lst?, ints?, bindP, bindPs, rangeItems, pick, eo_ii, eo_ss, eo_bb, eo_sn, eo_in, eo_ni, eo_ns, eo_nn, pq_ii, pq_ss, pq_bb, pq_in, pq_ni, pq_sn, pq_ns, pq_nn, s_for, i_ex, hlp, hc, bools_map, all_id]
  simpa using hz
theorem len_LIM {α : Type} {xs : List α} (h : xs.length ≤ 1000) : xs.length ≤ LIM := Nat.le_trans h (by decide)
theorem all_ok {α : Type} {p : α → Bool} {xs : List α} (h : ∀ x ∈ xs, p x = true) : xs.all p = true := List.all_eq_true.mpr h
theorem e_is_format (k : Nat) (f : Fm) (h : f.Ok) : evCl G F (k + 4) c_is_format [(false, f.pv)] = some (.fz (.bl true), []) := by
  refine (u_is_format (k + 3) _).trans ?_
  have hh := all_ok h.hd
  have hb1 := h.b1
  have hb2 := h.b2
  have hm := h.m1
  simp [f_is_format, fn_eq, startE, slotOf, q_nil, q_cons, th_nx, th_rt, th_br, th_ct, th_if, s_asgN, s_asgT, s_par, p_nil, p_cons, s_expr, s_ret, s_retN, s_ite, s_setIdx, s_app, setAt, appTo, x_lit, x_glo, x_var, x_tup, x_lst, x_bin, x_neg, x_cmp, x_chain, x_ands, x_ors, x_and1, x_or1, andK_bl, orK_bl, x_and2, x_or2, x_not, x_ite, x_idx, sliceOf, x_slc, x_call, x_callK, x_bi, x_isi, x_rng1, x_rng2, a_nil, a_val, a_ref, k_nil, k_cons, o_none, o_some, val_fz, val_fr, d_slot, d_val, ds_nil, ds_cons, t_some, bw, use, peek, put, modify, truthy, isStr, avGet, avPut, slots, vals?, cmpOp, ords, isIt, isNon, within, b_add, b_sub, b_catT, b_catL, bias, biEv, tyOf, flRv, finE, mkSeq, PV.int?, PV.seq?, PV.lst?, ints?, bindP, bindPs, rangeItems, pick, eo_ii, eo_ss, eo_bb, eo_sn, eo_in, eo_ni, eo_ns, eo_nn, pq_ii, pq_ss, pq_bb, pq_in, pq_ni, pq_sn, pq_ns, pq_nn, Fm.pv, e_is_at_least, e_is_head k f.b f.hd (len_LIM h.hl), hh, v_GREATEST_BASE, v_WIDTHS, v_OTHERS, e_widths, e_others, e_is_tags k f.b f.tg h.tl h.tg h.st, hb1, hm, Int.not_lt.mpr hb2]
theorem e_check_format (k : Nat) (f : Fm) (h : f.Ok) : evCl G F (k + 5) c_check_format [(false, f.pv)] = some (.fz .non, []) := by
  refine (u_check_format (k + 4) _).trans ?_
  simp [f_check_format, fn_eq, startE, slotOf, q_nil, q_cons, th_nx, th_rt, th_br, th_ct, th_if, s_asgN, s_asgT, s_par, p_nil, p_cons, s_expr, s_ret, s_retN, s_ite, s_setIdx, s_app, setAt, appTo, x_lit, x_glo, x_var, x_tup, x_lst, x_bin, x_neg, x_cmp, x_chain, x_ands, x_ors, x_and1, x_or1, andK_bl, orK_bl, x_and2, x_or2, x_not, x_ite, x_idx, sliceOf, x_slc, x_call, x_callK, x_bi, x_isi, x_rng1, x_rng2, a_nil, a_val, a_ref, k_nil, k_cons, o_none, o_some, val_fz, val_fr, d_slot, d_val, ds_nil, ds_cons, t_some, bw, use, peek, put, modify, truthy, isStr, avGet, avPut, slots, vals?, cmpOp, ords, isIt, isNon, within, b_add, b_sub, b_catT, b_catL, bias, biEv, tyOf, flRv, finE, mkSeq, PV.int?, PV.seq?, PV.lst?, ints?, bindP, bindPs, rangeItems, pick, eo_ii, eo_ss, eo_bb, eo_sn, eo_in, eo_ni, eo_ns, eo_nn, pq_ii, pq_ss, pq_bb, pq_in, pq_ni, pq_sn, pq_ns, pq_nn, e_is_format k f h]
theorem e_is_file_of (k : Nat) (f : Fm) (xs : List Int) (hl : xs.length ≤ LIM) : evCl G F (k + 4) c_is_file_of [(false, f.pv), (false, sg xs)] = some (.fz (.bl (xs.all (inB f.b))), []) := by
  refine (u_is_file_of (k + 3) _).trans ?_
  simp [f_is_file_of, fn_eq, startE, slotOf, q_nil, q_cons, th_nx, th_rt, th_br, th_ct, th_if, s_asgN, s_asgT, s_par, p_nil, p_cons, s_expr, s_ret, s_retN, s_ite, s_setIdx, s_app, setAt, appTo, x_lit, x_glo, x_var, x_tup, x_lst, x_bin, x_neg, x_cmp, x_chain, x_ands, x_ors, x_and1, x_or1, andK_bl, orK_bl, x_and2, x_or2, x_not, x_ite, x_idx, sliceOf, x_slc, x_call, x_callK, x_bi, x_isi, x_rng1, x_rng2, a_nil, a_val, a_ref, k_nil, k_cons, o_none, o_some, val_fz, val_fr, d_slot, d_val, ds_nil, ds_cons, t_some, bw, use, peek, put, modify, truthy, isStr, avGet, avPut, slots, vals?, cmpOp, ords, isIt, isNon, within, b_add, b_sub, b_catT, b_catL, bias, biEv, tyOf, flRv, finE, mkSeq, PV.int?, PV.seq?, PV.lst?, ints?, bindP, bindPs, rangeItems, pick, eo_ii, eo_ss, eo_bb, eo_sn, eo_in, eo_ni, eo_ns, eo_nn, pq_ii, pq_ss, pq_bb, pq_in, pq_ni, pq_sn, pq_ns, pq_nn, Fm.pv, ixN, e_is_signs k f.b xs hl]
theorem e_check_file (k : Nat) (f : Fm) (xs : List Int) (hl : xs.length ≤ LIM) (h : ∀ x ∈ xs, inB f.b x = true) : evCl G F (k + 5) c_check_file [(false, f.pv), (false, sg xs)] = some (.fz .non, []) := by
  refine (u_check_file (k + 4) _).trans ?_
  have hh := all_ok h
  simp [f_check_file, fn_eq, startE, slotOf, q_nil, q_cons, th_nx, th_rt, th_br, th_ct, th_if, s_asgN, s_asgT, s_par, p_nil, p_cons, s_expr, s_ret, s_retN, s_ite, s_setIdx, s_app, setAt, appTo, x_lit, x_glo, x_var, x_tup, x_lst, x_bin, x_neg, x_cmp, x_chain, x_ands, x_ors, x_and1, x_or1, andK_bl, orK_bl, x_and2, x_or2, x_not, x_ite, x_idx, sliceOf, x_slc, x_call, x_callK, x_bi, x_isi, x_rng1, x_rng2, a_nil, a_val, a_ref, k_nil, k_cons, o_none, o_some, val_fz, val_fr, d_slot, d_val, ds_nil, ds_cons, t_some, bw, use, peek, put, modify, truthy, isStr, avGet, avPut, slots, vals?, cmpOp, ords, isIt, isNon, within, b_add, b_sub, b_catT, b_catL, bias, biEv, tyOf, flRv, finE, mkSeq, PV.int?, PV.seq?, PV.lst?, ints?, bindP, bindPs, rangeItems, pick, eo_ii, eo_ss, eo_bb, eo_sn, eo_in, eo_ni, eo_ns, eo_nn, pq_ii, pq_ss, pq_bb, pq_in, pq_ni, pq_sn, pq_ns, pq_nn, e_is_file_of k f xs hl, hh]
end EV.Law
set_option linter.all false
set_option maxRecDepth 100000
namespace EV.Law
open PySem EV
/-! ### stands -/
inductive Sd | head (k : Nat) | tag | room | over | len (u : U) | sec (u : U) (x : Int) | body (u : U) (l t : Int) | sum (t : Int)
def Sd.pv : Sd → PV
  | .head k => .tup [.str "head", .int (k : Int)]
  | .tag => .tup [.str "tag"]
  | .room => .tup [.str "room"]
  | .over => .tup [.str "over"]
  | .len u => .tup [.str "length", .str u.str]
  | .sec u x => .tup [.str "second", .str u.str, .int x]
  | .body u l t => .tup [.str "body", .str u.str, .int l, .int t]
  | .sum t => .tup [.str "sum", .int t]
def osd : Option Sd → PV
  | none => .non
  | some s => s.pv
def useAt (f : Fm) (s : Int) : Option U := match f.tg.find? (fun r => r.1 == s) with
  | some r => some r.2
  | none => if f.o then some .skip else none
def ouse : Option U → PV
  | none => .non
  | some u => .str u.str
def bodyS (u : U) (l : Int) : Sd := if 0 < l then .body u l 0 else if u = .check then .sum 0 else .tag
def stepS (f : Fm) : Sd → Int → Option Sd
  | .head k, s => match f.hd[k]? with
    | some none => some (if k + 1 < f.hd.length then .head (k + 1) else .tag)
    | some (some i) => if i = s then some (if k + 1 < f.hd.length then .head (k + 1) else .tag) else none
    | none => none
  | .tag, s => match useAt f s with
    | none => none
    | some .fin => some .room
    | some .stop => some .over
    | some u => some (.len u)
  | .len u, s => if f.w = .one then (if s ≤ f.m then some (bodyS u s) else none) else if (if f.w = .high then s * f.b else s) ≤ f.m then some (.sec u s) else none
  | .sec u x, s => if (if f.w = .high then x * f.b + s else s * f.b + x) ≤ f.m then some (bodyS u (if f.w = .high then x * f.b + s else s * f.b + x)) else none
  | .body u l t, s => some (if 1 < l then .body u (l - 1) (if u = .check then (t + s) % f.b else t) else if u = .check then .sum (if u = .check then (t + s) % f.b else t) else .tag)
  | .sum t, s => if s = t then some .tag else none
  | .room, _ => some .room
  | .over, _ => none
def runS (f : Fm) : Option Sd → List Int → Option Sd
  | st, [] => st
  | none, _ :: _ => none
  | some st, s :: r => runS f (stepS f st s) r
def firstS (f : Fm) : Sd := if f.hd = [] then .tag else .head 0
def sdOk (f : Fm) : Option Sd → Prop
  | some (.head k) => k < f.hd.length
  | _ => True
/-! ### what the defs answer -/
theorem flats_hd : ∀ xs : List (Option Int), flats (xs.map mkO) = true
  | [] => rfl
  | x :: xs => by
    show (PV.flat (mkO x) && flats (xs.map mkO)) = true
    rw [flats_hd xs]
    cases x <;> rfl
theorem eq_hd (xs : List (Option Int)) : eqOk (.tup (xs.map mkO)) (.tup []) = true := by
  show (false || ((PV.flat (.tup (xs.map mkO))) && PV.flat (.tup []) && decide (min (PV.dep (.tup (xs.map mkO))) (PV.dep (.tup [])) ≤ 60))) = true
  have h1 : PV.flat (.tup (xs.map mkO)) = true := flats_hd xs
  have h2 : min (PV.dep (.tup (xs.map mkO))) (PV.dep (.tup [])) ≤ 60 := Nat.le_trans (Nat.min_le_right _ _) (by decide)
  rw [h1, decide_eq_true h2]
  rfl
theorem pq_hd (xs : List (Option Int)) : peq (.tup (xs.map mkO)) (.tup []) = decide (xs = []) := by
  cases xs with
  | nil => rfl
  | cons x xs =>
    show (peqs (mkO x :: xs.map mkO) []) = _
    simp [peqs]
theorem e_first (k : Nat) (f : Fm) : evCl G F (k + 1) c_first_stand [(false, f.pv)] = some (.fz (firstS f).pv, []) := by
  refine (u_first_stand k _).trans ?_
  unfold firstS
  by_cases h : f.hd = []
  · have h1 := eq_hd []
    have h2 := pq_hd []
    simp only [List.map_nil] at h1 h2
    simp [f_first_stand, fn_eq, startE, slotOf, q_nil, q_cons, th_nx, th_rt, th_br, th_ct, th_if, s_asgN, s_asgT, s_par, p_nil, p_cons, s_expr, s_ret, s_retN, s_ite, s_setIdx, s_app, setAt, appTo, x_lit, x_glo, x_var, x_tup, x_lst, x_bin, x_neg, x_cmp, x_chain, x_ands, x_ors, x_and1, x_or1, andK_bl, orK_bl, x_and2, x_or2, x_not, x_ite, x_idx, sliceOf, x_slc, x_call, x_callK, x_bi, x_isi, x_rng1, x_rng2, a_nil, a_val, a_ref, k_nil, k_cons, o_none, o_some, val_fz, val_fr, d_slot, d_val, ds_nil, ds_cons, t_some, bw, use, peek, put, modify, truthy, isStr, avGet, avPut, slots, vals?, cmpOp, ords, isIt, isNon, within, b_add, b_sub, b_catT, b_catL, bias, biEv, tyOf, flRv, finE, mkSeq, PV.int?, PV.seq?, PV.lst?, ints?, bindP, bindPs, rangeItems, pick, eo_ii, eo_ss, eo_bb, eo_sn, eo_in, eo_ni, eo_ns, eo_nn, pq_ii, pq_ss, pq_bb, pq_in, pq_ni, pq_sn, pq_ns, pq_nn, Fm.pv, ixN, h1, h2, h, v_TAG, Sd.pv, LIM]
  · simp [f_first_stand, fn_eq, startE, slotOf, q_nil, q_cons, th_nx, th_rt, th_br, th_ct, th_if, s_asgN, s_asgT, s_par, p_nil, p_cons, s_expr, s_ret, s_retN, s_ite, s_setIdx, s_app, setAt, appTo, x_lit, x_glo, x_var, x_tup, x_lst, x_bin, x_neg, x_cmp, x_chain, x_ands, x_ors, x_and1, x_or1, andK_bl, orK_bl, x_and2, x_or2, x_not, x_ite, x_idx, sliceOf, x_slc, x_call, x_callK, x_bi, x_isi, x_rng1, x_rng2, a_nil, a_val, a_ref, k_nil, k_cons, o_none, o_some, val_fz, val_fr, d_slot, d_val, ds_nil, ds_cons, t_some, bw, use, peek, put, modify, truthy, isStr, avGet, avPut, slots, vals?, cmpOp, ords, isIt, isNon, within, b_add, b_sub, b_catT, b_catL, bias, biEv, tyOf, flRv, finE, mkSeq, PV.int?, PV.seq?, PV.lst?, ints?, bindP, bindPs, rangeItems, pick, eo_ii, eo_ss, eo_bb, eo_sn, eo_in, eo_ni, eo_ns, eo_nn, pq_ii, pq_ss, pq_bb, pq_in, pq_ni, pq_sn, pq_ns, pq_nn, Fm.pv, ixN, eq_hd, pq_hd, h, v_TAG, Sd.pv, LIM]
theorem use_loop (k : Nat) (fv : PV) (s : Int) : ∀ (tg : List (Int × U)) (o2 o3 : Option PV), ∃ o2' o3', forLoop (fT G (evCl G F k) (.tup [(.name 2), (.name 3)])
    [.ite (.cmp .eq (.var 2) (.var 1))
       [.ret (.var 3)]
       []]) (tg.map row) [.fz fv, .fz (.int s), sl o2, sl o3] = some (match tg.find? (fun r => r.1 == s) with | some r => .rt (.fz (.str r.2.str)) | none => .nx, [.fz fv, .fz (.int s), sl o2', sl o3'])
  | [], o2, o3 => ⟨o2, o3, rfl⟩
  | x :: tg, o2, o3 => by
    obtain ⟨a, b, ih⟩ := use_loop k fv s tg (some (.int x.1)) (some (.str x.2.str))
    by_cases hx : x.1 = s
    · refine ⟨some (.int x.1), some (.str x.2.str), ?_⟩
      rw [List.map_cons, forLoop]
      have hf : (x :: tg).find? (fun r => r.1 == s) = some x := by simp [hx]
      rw [hf]
      cases o2 <;> cases o3 <;> simp [fT, fn_eq, startE, slotOf, q_nil, q_cons, th_nx, th_rt, th_br, th_ct, th_if, s_asgN, s_asgT, s_par, p_nil, p_cons, s_expr, s_ret, s_retN, s_ite, s_setIdx, s_app, setAt, appTo, x_lit, x_glo, x_var, x_tup, x_lst, x_bin, x_neg, x_cmp, x_chain, x_ands, x_ors, x_and1, x_or1, andK_bl, orK_bl, x_and2, x_or2, x_not, x_ite, x_idx, sliceOf, x_slc, x_call, x_callK, x_bi, x_isi, x_rng1, x_rng2, a_nil, a_val, a_ref, k_nil, k_cons, o_none, o_some, val_fz, val_fr, d_slot, d_val, ds_nil, ds_cons, t_some, bw, use, peek, put, modify, truthy, isStr, avGet, avPut, slots, vals?, cmpOp, ords, isIt, isNon, within, b_add, b_sub, b_catT, b_catL, bias, biEv, tyOf, flRv, finE, mkSeq, PV.int?, PV.seq?, PV.lst?, ints?, bindP, bindPs, rangeItems, pick, eo_ii, eo_ss, eo_bb, eo_sn, eo_in, eo_ni, eo_ns, eo_nn, pq_ii, pq_ss, pq_bb, pq_in, pq_ni, pq_sn, pq_ns, pq_nn, sl, row, hx]
    · refine ⟨a, b, ?_⟩
      rw [List.map_cons, forLoop]
      have hf : (x :: tg).find? (fun r => r.1 == s) = tg.find? (fun r => r.1 == s) := by simp [hx]
      rw [hf, ← ih]
      cases o2 <;> cases o3 <;> simp [fT, fn_eq, startE, slotOf, q_nil, q_cons, th_nx, th_rt, th_br, th_ct, th_if, s_asgN, s_asgT, s_par, p_nil, p_cons, s_expr, s_ret, s_retN, s_ite, s_setIdx, s_app, setAt, appTo, x_lit, x_glo, x_var, x_tup, x_lst, x_bin, x_neg, x_cmp, x_chain, x_ands, x_ors, x_and1, x_or1, andK_bl, orK_bl, x_and2, x_or2, x_not, x_ite, x_idx, sliceOf, x_slc, x_call, x_callK, x_bi, x_isi, x_rng1, x_rng2, a_nil, a_val, a_ref, k_nil, k_cons, o_none, o_some, val_fz, val_fr, d_slot, d_val, ds_nil, ds_cons, t_some, bw, use, peek, put, modify, truthy, isStr, avGet, avPut, slots, vals?, cmpOp, ords, isIt, isNon, within, b_add, b_sub, b_catT, b_catL, bias, biEv, tyOf, flRv, finE, mkSeq, PV.int?, PV.seq?, PV.lst?, ints?, bindP, bindPs, rangeItems, pick, eo_ii, eo_ss, eo_bb, eo_sn, eo_in, eo_ni, eo_ns, eo_nn, pq_ii, pq_ss, pq_bb, pq_in, pq_ni, pq_sn, pq_ns, pq_nn, sl, row, hx]
theorem e_use_at (k : Nat) (f : Fm) (s : Int) : evCl G F (k + 1) c_use_at [(false, f.pv), (false, .int s)] = some (.fz (ouse (useAt f s)), []) := by
  refine (u_use_at k _).trans ?_
  obtain ⟨a, b, hl⟩ := use_loop k f.pv s f.tg none none
  unfold useAt
  have hl : forLoop _ (f.tg.map row) [.fz f.pv, .fz (.int s), .un, .un] = _ := hl
  have hi : evI G (evCl G F k) (.ex (.idx (.var 0) (.lit (.int 4)))) [.fz f.pv, .fz (.int s), .un, .un] = some (f.tg.map row, [.fz f.pv, .fz (.int s), .un, .un]) := rfl
  simp [f_use_at, fn_eq, startE, slotOf, q_nil, q_cons, th_nx, th_rt, th_br, th_ct, th_if, s_asgN, s_asgT, s_par, p_nil, p_cons, s_expr, s_ret, s_retN, s_ite, s_setIdx, s_app, setAt, appTo, x_lit, x_glo, x_var, x_tup, x_lst, x_bin, x_neg, x_cmp, x_chain, x_ands, x_ors, x_and1, x_or1, andK_bl, orK_bl, x_and2, x_or2, x_not, x_ite, x_idx, sliceOf, x_slc, x_call, x_callK, x_bi, x_isi, x_rng1, x_rng2, a_nil, a_val, a_ref, k_nil, k_cons, o_none, o_some, val_fz, val_fr, d_slot, d_val, ds_nil, ds_cons, t_some, bw, use, peek, put, modify, truthy, isStr, avGet, avPut, slots, vals?, cmpOp, ords, isIt, isNon, within, b_add, b_sub, b_catT, b_catL, bias, biEv, tyOf, flRv, finE, mkSeq, PV.int?, PV.seq?, PV.lst?, ints?, bindP, bindPs, rangeItems, pick, eo_ii, eo_ss, eo_bb, eo_sn, eo_in, eo_ni, eo_ns, eo_nn, pq_ii, pq_ss, pq_bb, pq_in, pq_ni, pq_sn, pq_ns, pq_nn, s_for, hi, hl]
  cases h : f.tg.find? (fun r => r.1 == s) with
  | some r => simp [fn_eq, startE, slotOf, q_nil, q_cons, th_nx, th_rt, th_br, th_ct, th_if, s_asgN, s_asgT, s_par, p_nil, p_cons, s_expr, s_ret, s_retN, s_ite, s_setIdx, s_app, setAt, appTo, x_lit, x_glo, x_var, x_tup, x_lst, x_bin, x_neg, x_cmp, x_chain, x_ands, x_ors, x_and1, x_or1, andK_bl, orK_bl, x_and2, x_or2, x_not, x_ite, x_idx, sliceOf, x_slc, x_call, x_callK, x_bi, x_isi, x_rng1, x_rng2, a_nil, a_val, a_ref, k_nil, k_cons, o_none, o_some, val_fz, val_fr, d_slot, d_val, ds_nil, ds_cons, t_some, bw, use, peek, put, modify, truthy, isStr, avGet, avPut, slots, vals?, cmpOp, ords, isIt, isNon, within, b_add, b_sub, b_catT, b_catL, bias, biEv, tyOf, flRv, finE, mkSeq, PV.int?, PV.seq?, PV.lst?, ints?, bindP, bindPs, rangeItems, pick, eo_ii, eo_ss, eo_bb, eo_sn, eo_in, eo_ni, eo_ns, eo_nn, pq_ii, pq_ss, pq_bb, pq_in, pq_ni, pq_sn, pq_ns, pq_nn, ouse]
  | none =>
    cases ho : f.o <;> simp (decide := true) [fn_eq, startE, slotOf, q_nil, q_cons, th_nx, th_rt, th_br, th_ct, th_if, s_asgN, s_asgT, s_par, p_nil, p_cons, s_expr, s_ret, s_retN, s_ite, s_setIdx, s_app, setAt, appTo, x_lit, x_glo, x_var, x_tup, x_lst, x_bin, x_neg, x_cmp, x_chain, x_ands, x_ors, x_and1, x_or1, andK_bl, orK_bl, x_and2, x_or2, x_not, x_ite, x_idx, sliceOf, x_slc, x_call, x_callK, x_bi, x_isi, x_rng1, x_rng2, a_nil, a_val, a_ref, k_nil, k_cons, o_none, o_some, val_fz, val_fr, d_slot, d_val, ds_nil, ds_cons, t_some, bw, use, peek, put, modify, truthy, isStr, avGet, avPut, slots, vals?, cmpOp, ords, isIt, isNon, within, b_add, b_sub, b_catT, b_catL, bias, biEv, tyOf, flRv, finE, mkSeq, PV.int?, PV.seq?, PV.lst?, ints?, bindP, bindPs, rangeItems, pick, eo_ii, eo_ss, eo_bb, eo_sn, eo_in, eo_ni, eo_ns, eo_nn, pq_ii, pq_ss, pq_bb, pq_in, pq_ni, pq_sn, pq_ns, pq_nn, Fm.pv, oth, ho, v_SKIP, ixN, ouse, U.str] <;> rfl
theorem u_beq (u : U) : (u.str == ("check" : Str)) = decide (u = .check) := by cases u <;> rfl
theorem w_one (w : W) : (w.str == ("one" : Str)) = decide (w = .one) := by cases w <;> rfl
theorem w_high (w : W) : (w.str == ("high" : Str)) = decide (w = .high) := by cases w <;> rfl
theorem e_body_stand (k : Nat) (u : U) (l : Int) : evCl G F (k + 1) c_body_stand [(false, .str u.str), (false, .int l)] = some (.fz (bodyS u l).pv, []) := by
  refine (u_body_stand k _).trans ?_
  unfold bodyS
  by_cases h : 0 < l
  · simp [f_body_stand, fn_eq, startE, slotOf, q_nil, q_cons, th_nx, th_rt, th_br, th_ct, th_if, s_asgN, s_asgT, s_par, p_nil, p_cons, s_expr, s_ret, s_retN, s_ite, s_setIdx, s_app, setAt, appTo, x_lit, x_glo, x_var, x_tup, x_lst, x_bin, x_neg, x_cmp, x_chain, x_ands, x_ors, x_and1, x_or1, andK_bl, orK_bl, x_and2, x_or2, x_not, x_ite, x_idx, sliceOf, x_slc, x_call, x_callK, x_bi, x_isi, x_rng1, x_rng2, a_nil, a_val, a_ref, k_nil, k_cons, o_none, o_some, val_fz, val_fr, d_slot, d_val, ds_nil, ds_cons, t_some, bw, use, peek, put, modify, truthy, isStr, avGet, avPut, slots, vals?, cmpOp, ords, isIt, isNon, within, b_add, b_sub, b_catT, b_catL, bias, biEv, tyOf, flRv, finE, mkSeq, PV.int?, PV.seq?, PV.lst?, ints?, bindP, bindPs, rangeItems, pick, eo_ii, eo_ss, eo_bb, eo_sn, eo_in, eo_ni, eo_ns, eo_nn, pq_ii, pq_ss, pq_bb, pq_in, pq_ni, pq_sn, pq_ns, pq_nn, h, Sd.pv, LIM]
  · by_cases hu : u = .check
    · subst hu
      simp (decide := true) [f_body_stand, fn_eq, startE, slotOf, q_nil, q_cons, th_nx, th_rt, th_br, th_ct, th_if, s_asgN, s_asgT, s_par, p_nil, p_cons, s_expr, s_ret, s_retN, s_ite, s_setIdx, s_app, setAt, appTo, x_lit, x_glo, x_var, x_tup, x_lst, x_bin, x_neg, x_cmp, x_chain, x_ands, x_ors, x_and1, x_or1, andK_bl, orK_bl, x_and2, x_or2, x_not, x_ite, x_idx, sliceOf, x_slc, x_call, x_callK, x_bi, x_isi, x_rng1, x_rng2, a_nil, a_val, a_ref, k_nil, k_cons, o_none, o_some, val_fz, val_fr, d_slot, d_val, ds_nil, ds_cons, t_some, bw, use, peek, put, modify, truthy, isStr, avGet, avPut, slots, vals?, cmpOp, ords, isIt, isNon, within, b_add, b_sub, b_catT, b_catL, bias, biEv, tyOf, flRv, finE, mkSeq, PV.int?, PV.seq?, PV.lst?, ints?, bindP, bindPs, rangeItems, pick, eo_ii, eo_ss, eo_bb, eo_sn, eo_in, eo_ni, eo_ns, eo_nn, pq_ii, pq_ss, pq_bb, pq_in, pq_ni, pq_sn, pq_ns, pq_nn, h, Sd.pv, LIM, v_CHECK, U.str]
    · simp [f_body_stand, fn_eq, startE, slotOf, q_nil, q_cons, th_nx, th_rt, th_br, th_ct, th_if, s_asgN, s_asgT, s_par, p_nil, p_cons, s_expr, s_ret, s_retN, s_ite, s_setIdx, s_app, setAt, appTo, x_lit, x_glo, x_var, x_tup, x_lst, x_bin, x_neg, x_cmp, x_chain, x_ands, x_ors, x_and1, x_or1, andK_bl, orK_bl, x_and2, x_or2, x_not, x_ite, x_idx, sliceOf, x_slc, x_call, x_callK, x_bi, x_isi, x_rng1, x_rng2, a_nil, a_val, a_ref, k_nil, k_cons, o_none, o_some, val_fz, val_fr, d_slot, d_val, ds_nil, ds_cons, t_some, bw, use, peek, put, modify, truthy, isStr, avGet, avPut, slots, vals?, cmpOp, ords, isIt, isNon, within, b_add, b_sub, b_catT, b_catL, bias, biEv, tyOf, flRv, finE, mkSeq, PV.int?, PV.seq?, PV.lst?, ints?, bindP, bindPs, rangeItems, pick, eo_ii, eo_ss, eo_bb, eo_sn, eo_in, eo_ni, eo_ns, eo_nn, pq_ii, pq_ss, pq_bb, pq_in, pq_ni, pq_sn, pq_ns, pq_nn, h, Sd.pv, LIM, v_CHECK, v_TAG, u_beq, hu]
theorem e_behind_length (k : Nat) (f : Fm) (h : f.Ok) (u : U) (s : Int) : evCl G F (k + 2) c_behind_length [(false, f.pv), (false, .str u.str), (false, .int s)] = some (.fz (osd (stepS f (.len u) s)), []) := by
  refine (u_behind_length (k + 1) _).trans ?_
  have hb1 : -18446744073709551616 < f.b := by have := h.b1; omega
  have hb2 : f.b < 18446744073709551616 := by have := h.b2; omega
  unfold stepS
  by_cases h1 : f.w = .one
  · by_cases h2 : s ≤ f.m
    · simp [f_behind_length, fn_eq, startE, slotOf, q_nil, q_cons, th_nx, th_rt, th_br, th_ct, th_if, s_asgN, s_asgT, s_par, p_nil, p_cons, s_expr, s_ret, s_retN, s_ite, s_setIdx, s_app, setAt, appTo, x_lit, x_glo, x_var, x_tup, x_lst, x_bin, x_neg, x_cmp, x_chain, x_ands, x_ors, x_and1, x_or1, andK_bl, orK_bl, x_and2, x_or2, x_not, x_ite, x_idx, sliceOf, x_slc, x_call, x_callK, x_bi, x_isi, x_rng1, x_rng2, a_nil, a_val, a_ref, k_nil, k_cons, o_none, o_some, val_fz, val_fr, d_slot, d_val, ds_nil, ds_cons, t_some, bw, use, peek, put, modify, truthy, isStr, avGet, avPut, slots, vals?, cmpOp, ords, isIt, isNon, within, b_add, b_sub, b_catT, b_catL, bias, biEv, tyOf, flRv, finE, mkSeq, PV.int?, PV.seq?, PV.lst?, ints?, bindP, bindPs, rangeItems, pick, eo_ii, eo_ss, eo_bb, eo_sn, eo_in, eo_ni, eo_ns, eo_nn, pq_ii, pq_ss, pq_bb, pq_in, pq_ni, pq_sn, pq_ns, pq_nn, Fm.pv, ixN, v_ONE, w_one, h1, h2, e_body_stand, osd]
    · simp [f_behind_length, fn_eq, startE, slotOf, q_nil, q_cons, th_nx, th_rt, th_br, th_ct, th_if, s_asgN, s_asgT, s_par, p_nil, p_cons, s_expr, s_ret, s_retN, s_ite, s_setIdx, s_app, setAt, appTo, x_lit, x_glo, x_var, x_tup, x_lst, x_bin, x_neg, x_cmp, x_chain, x_ands, x_ors, x_and1, x_or1, andK_bl, orK_bl, x_and2, x_or2, x_not, x_ite, x_idx, sliceOf, x_slc, x_call, x_callK, x_bi, x_isi, x_rng1, x_rng2, a_nil, a_val, a_ref, k_nil, k_cons, o_none, o_some, val_fz, val_fr, d_slot, d_val, ds_nil, ds_cons, t_some, bw, use, peek, put, modify, truthy, isStr, avGet, avPut, slots, vals?, cmpOp, ords, isIt, isNon, within, b_add, b_sub, b_catT, b_catL, bias, biEv, tyOf, flRv, finE, mkSeq, PV.int?, PV.seq?, PV.lst?, ints?, bindP, bindPs, rangeItems, pick, eo_ii, eo_ss, eo_bb, eo_sn, eo_in, eo_ni, eo_ns, eo_nn, pq_ii, pq_ss, pq_bb, pq_in, pq_ni, pq_sn, pq_ns, pq_nn, Fm.pv, ixN, v_ONE, w_one, h1, h2, osd]
  · by_cases h3 : f.w = .high
    · by_cases h2 : s * f.b ≤ f.m
      · simp [f_behind_length, fn_eq, startE, slotOf, q_nil, q_cons, th_nx, th_rt, th_br, th_ct, th_if, s_asgN, s_asgT, s_par, p_nil, p_cons, s_expr, s_ret, s_retN, s_ite, s_setIdx, s_app, setAt, appTo, x_lit, x_glo, x_var, x_tup, x_lst, x_bin, x_neg, x_cmp, x_chain, x_ands, x_ors, x_and1, x_or1, andK_bl, orK_bl, x_and2, x_or2, x_not, x_ite, x_idx, sliceOf, x_slc, x_call, x_callK, x_bi, x_isi, x_rng1, x_rng2, a_nil, a_val, a_ref, k_nil, k_cons, o_none, o_some, val_fz, val_fr, d_slot, d_val, ds_nil, ds_cons, t_some, bw, use, peek, put, modify, truthy, isStr, avGet, avPut, slots, vals?, cmpOp, ords, isIt, isNon, within, b_add, b_sub, b_catT, b_catL, bias, biEv, tyOf, flRv, finE, mkSeq, PV.int?, PV.seq?, PV.lst?, ints?, bindP, bindPs, rangeItems, pick, eo_ii, eo_ss, eo_bb, eo_sn, eo_in, eo_ni, eo_ns, eo_nn, pq_ii, pq_ss, pq_bb, pq_in, pq_ni, pq_sn, pq_ns, pq_nn, Fm.pv, ixN, v_ONE, v_HIGH, w_one, w_high, h1, h2, h3, b_mulR, hb1, hb2, osd, Sd.pv, LIM]
      · simp [f_behind_length, fn_eq, startE, slotOf, q_nil, q_cons, th_nx, th_rt, th_br, th_ct, th_if, s_asgN, s_asgT, s_par, p_nil, p_cons, s_expr, s_ret, s_retN, s_ite, s_setIdx, s_app, setAt, appTo, x_lit, x_glo, x_var, x_tup, x_lst, x_bin, x_neg, x_cmp, x_chain, x_ands, x_ors, x_and1, x_or1, andK_bl, orK_bl, x_and2, x_or2, x_not, x_ite, x_idx, sliceOf, x_slc, x_call, x_callK, x_bi, x_isi, x_rng1, x_rng2, a_nil, a_val, a_ref, k_nil, k_cons, o_none, o_some, val_fz, val_fr, d_slot, d_val, ds_nil, ds_cons, t_some, bw, use, peek, put, modify, truthy, isStr, avGet, avPut, slots, vals?, cmpOp, ords, isIt, isNon, within, b_add, b_sub, b_catT, b_catL, bias, biEv, tyOf, flRv, finE, mkSeq, PV.int?, PV.seq?, PV.lst?, ints?, bindP, bindPs, rangeItems, pick, eo_ii, eo_ss, eo_bb, eo_sn, eo_in, eo_ni, eo_ns, eo_nn, pq_ii, pq_ss, pq_bb, pq_in, pq_ni, pq_sn, pq_ns, pq_nn, Fm.pv, ixN, v_ONE, v_HIGH, w_one, w_high, h1, h2, h3, b_mulR, hb1, hb2, osd, Sd.pv, LIM]
    · by_cases h2 : s ≤ f.m
      · simp [f_behind_length, fn_eq, startE, slotOf, q_nil, q_cons, th_nx, th_rt, th_br, th_ct, th_if, s_asgN, s_asgT, s_par, p_nil, p_cons, s_expr, s_ret, s_retN, s_ite, s_setIdx, s_app, setAt, appTo, x_lit, x_glo, x_var, x_tup, x_lst, x_bin, x_neg, x_cmp, x_chain, x_ands, x_ors, x_and1, x_or1, andK_bl, orK_bl, x_and2, x_or2, x_not, x_ite, x_idx, sliceOf, x_slc, x_call, x_callK, x_bi, x_isi, x_rng1, x_rng2, a_nil, a_val, a_ref, k_nil, k_cons, o_none, o_some, val_fz, val_fr, d_slot, d_val, ds_nil, ds_cons, t_some, bw, use, peek, put, modify, truthy, isStr, avGet, avPut, slots, vals?, cmpOp, ords, isIt, isNon, within, b_add, b_sub, b_catT, b_catL, bias, biEv, tyOf, flRv, finE, mkSeq, PV.int?, PV.seq?, PV.lst?, ints?, bindP, bindPs, rangeItems, pick, eo_ii, eo_ss, eo_bb, eo_sn, eo_in, eo_ni, eo_ns, eo_nn, pq_ii, pq_ss, pq_bb, pq_in, pq_ni, pq_sn, pq_ns, pq_nn, Fm.pv, ixN, v_ONE, v_HIGH, w_one, w_high, h1, h2, h3, b_mulR, hb1, hb2, osd, Sd.pv, LIM]
      · simp [f_behind_length, fn_eq, startE, slotOf, q_nil, q_cons, th_nx, th_rt, th_br, th_ct, th_if, s_asgN, s_asgT, s_par, p_nil, p_cons, s_expr, s_ret, s_retN, s_ite, s_setIdx, s_app, setAt, appTo, x_lit, x_glo, x_var, x_tup, x_lst, x_bin, x_neg, x_cmp, x_chain, x_ands, x_ors, x_and1, x_or1, andK_bl, orK_bl, x_and2, x_or2, x_not, x_ite, x_idx, sliceOf, x_slc, x_call, x_callK, x_bi, x_isi, x_rng1, x_rng2, a_nil, a_val, a_ref, k_nil, k_cons, o_none, o_some, val_fz, val_fr, d_slot, d_val, ds_nil, ds_cons, t_some, bw, use, peek, put, modify, truthy, isStr, avGet, avPut, slots, vals?, cmpOp, ords, isIt, isNon, within, b_add, b_sub, b_catT, b_catL, bias, biEv, tyOf, flRv, finE, mkSeq, PV.int?, PV.seq?, PV.lst?, ints?, bindP, bindPs, rangeItems, pick, eo_ii, eo_ss, eo_bb, eo_sn, eo_in, eo_ni, eo_ns, eo_nn, pq_ii, pq_ss, pq_bb, pq_in, pq_ni, pq_sn, pq_ns, pq_nn, Fm.pv, ixN, v_ONE, v_HIGH, w_one, w_high, h1, h2, h3, b_mulR, hb1, hb2, osd, Sd.pv, LIM]
theorem e_behind_second (k : Nat) (f : Fm) (h : f.Ok) (u : U) (x s : Int) : evCl G F (k + 2) c_behind_second [(false, f.pv), (false, .str u.str), (false, .int x), (false, .int s)] = some (.fz (osd (stepS f (.sec u x) s)), []) := by
  refine (u_behind_second (k + 1) _).trans ?_
  have hb1 : -18446744073709551616 < f.b := by have := h.b1; omega
  have hb2 : f.b < 18446744073709551616 := by have := h.b2; omega
  unfold stepS
  by_cases h3 : f.w = .high
  · by_cases h2 : x * f.b + s ≤ f.m
    · simp [f_behind_second, fn_eq, startE, slotOf, q_nil, q_cons, th_nx, th_rt, th_br, th_ct, th_if, s_asgN, s_asgT, s_par, p_nil, p_cons, s_expr, s_ret, s_retN, s_ite, s_setIdx, s_app, setAt, appTo, x_lit, x_glo, x_var, x_tup, x_lst, x_bin, x_neg, x_cmp, x_chain, x_ands, x_ors, x_and1, x_or1, andK_bl, orK_bl, x_and2, x_or2, x_not, x_ite, x_idx, sliceOf, x_slc, x_call, x_callK, x_bi, x_isi, x_rng1, x_rng2, a_nil, a_val, a_ref, k_nil, k_cons, o_none, o_some, val_fz, val_fr, d_slot, d_val, ds_nil, ds_cons, t_some, bw, use, peek, put, modify, truthy, isStr, avGet, avPut, slots, vals?, cmpOp, ords, isIt, isNon, within, b_add, b_sub, b_catT, b_catL, bias, biEv, tyOf, flRv, finE, mkSeq, PV.int?, PV.seq?, PV.lst?, ints?, bindP, bindPs, rangeItems, pick, eo_ii, eo_ss, eo_bb, eo_sn, eo_in, eo_ni, eo_ns, eo_nn, pq_ii, pq_ss, pq_bb, pq_in, pq_ni, pq_sn, pq_ns, pq_nn, Fm.pv, ixN, v_HIGH, w_high, h2, h3, b_mulR, hb1, hb2, e_body_stand, osd]
    · simp [f_behind_second, fn_eq, startE, slotOf, q_nil, q_cons, th_nx, th_rt, th_br, th_ct, th_if, s_asgN, s_asgT, s_par, p_nil, p_cons, s_expr, s_ret, s_retN, s_ite, s_setIdx, s_app, setAt, appTo, x_lit, x_glo, x_var, x_tup, x_lst, x_bin, x_neg, x_cmp, x_chain, x_ands, x_ors, x_and1, x_or1, andK_bl, orK_bl, x_and2, x_or2, x_not, x_ite, x_idx, sliceOf, x_slc, x_call, x_callK, x_bi, x_isi, x_rng1, x_rng2, a_nil, a_val, a_ref, k_nil, k_cons, o_none, o_some, val_fz, val_fr, d_slot, d_val, ds_nil, ds_cons, t_some, bw, use, peek, put, modify, truthy, isStr, avGet, avPut, slots, vals?, cmpOp, ords, isIt, isNon, within, b_add, b_sub, b_catT, b_catL, bias, biEv, tyOf, flRv, finE, mkSeq, PV.int?, PV.seq?, PV.lst?, ints?, bindP, bindPs, rangeItems, pick, eo_ii, eo_ss, eo_bb, eo_sn, eo_in, eo_ni, eo_ns, eo_nn, pq_ii, pq_ss, pq_bb, pq_in, pq_ni, pq_sn, pq_ns, pq_nn, Fm.pv, ixN, v_HIGH, w_high, h2, h3, b_mulR, hb1, hb2, osd]
  · by_cases h2 : s * f.b + x ≤ f.m
    · simp [f_behind_second, fn_eq, startE, slotOf, q_nil, q_cons, th_nx, th_rt, th_br, th_ct, th_if, s_asgN, s_asgT, s_par, p_nil, p_cons, s_expr, s_ret, s_retN, s_ite, s_setIdx, s_app, setAt, appTo, x_lit, x_glo, x_var, x_tup, x_lst, x_bin, x_neg, x_cmp, x_chain, x_ands, x_ors, x_and1, x_or1, andK_bl, orK_bl, x_and2, x_or2, x_not, x_ite, x_idx, sliceOf, x_slc, x_call, x_callK, x_bi, x_isi, x_rng1, x_rng2, a_nil, a_val, a_ref, k_nil, k_cons, o_none, o_some, val_fz, val_fr, d_slot, d_val, ds_nil, ds_cons, t_some, bw, use, peek, put, modify, truthy, isStr, avGet, avPut, slots, vals?, cmpOp, ords, isIt, isNon, within, b_add, b_sub, b_catT, b_catL, bias, biEv, tyOf, flRv, finE, mkSeq, PV.int?, PV.seq?, PV.lst?, ints?, bindP, bindPs, rangeItems, pick, eo_ii, eo_ss, eo_bb, eo_sn, eo_in, eo_ni, eo_ns, eo_nn, pq_ii, pq_ss, pq_bb, pq_in, pq_ni, pq_sn, pq_ns, pq_nn, Fm.pv, ixN, v_HIGH, w_high, h2, h3, b_mulR, hb1, hb2, e_body_stand, osd]
    · simp [f_behind_second, fn_eq, startE, slotOf, q_nil, q_cons, th_nx, th_rt, th_br, th_ct, th_if, s_asgN, s_asgT, s_par, p_nil, p_cons, s_expr, s_ret, s_retN, s_ite, s_setIdx, s_app, setAt, appTo, x_lit, x_glo, x_var, x_tup, x_lst, x_bin, x_neg, x_cmp, x_chain, x_ands, x_ors, x_and1, x_or1, andK_bl, orK_bl, x_and2, x_or2, x_not, x_ite, x_idx, sliceOf, x_slc, x_call, x_callK, x_bi, x_isi, x_rng1, x_rng2, a_nil, a_val, a_ref, k_nil, k_cons, o_none, o_some, val_fz, val_fr, d_slot, d_val, ds_nil, ds_cons, t_some, bw, use, peek, put, modify, truthy, isStr, avGet, avPut, slots, vals?, cmpOp, ords, isIt, isNon, within, b_add, b_sub, b_catT, b_catL, bias, biEv, tyOf, flRv, finE, mkSeq, PV.int?, PV.seq?, PV.lst?, ints?, bindP, bindPs, rangeItems, pick, eo_ii, eo_ss, eo_bb, eo_sn, eo_in, eo_ni, eo_ns, eo_nn, pq_ii, pq_ss, pq_bb, pq_in, pq_ni, pq_sn, pq_ns, pq_nn, Fm.pv, ixN, v_HIGH, w_high, h2, h3, b_mulR, hb1, hb2, osd]
theorem e_behind_body (k : Nat) (f : Fm) (h : f.Ok) (u : U) (l t s : Int) : evCl G F (k + 1) c_behind_body [(false, f.pv), (false, (Sd.body u l t).pv), (false, .int s)] = some (.fz (osd (stepS f (.body u l t) s)), []) := by
  refine (u_behind_body k _).trans ?_
  have hb : 0 < f.b := by have := h.b1; omega
  unfold stepS
  have hc : ∀ z : Str, cut [PV.str "body", .str z, .int l, .int t] (some 1) none = [.str z, .int l, .int t] := fun _ => rfl
  by_cases hu : u = .check
  · by_cases hl : 1 < l
    · simp [f_behind_body, fn_eq, startE, slotOf, q_nil, q_cons, th_nx, th_rt, th_br, th_ct, th_if, s_asgN, s_asgT, s_par, p_nil, p_cons, s_expr, s_ret, s_retN, s_ite, s_setIdx, s_app, setAt, appTo, x_lit, x_glo, x_var, x_tup, x_lst, x_bin, x_neg, x_cmp, x_chain, x_ands, x_ors, x_and1, x_or1, andK_bl, orK_bl, x_and2, x_or2, x_not, x_ite, x_idx, sliceOf, x_slc, x_call, x_callK, x_bi, x_isi, x_rng1, x_rng2, a_nil, a_val, a_ref, k_nil, k_cons, o_none, o_some, val_fz, val_fr, d_slot, d_val, ds_nil, ds_cons, t_some, bw, use, peek, put, modify, truthy, isStr, avGet, avPut, slots, vals?, cmpOp, ords, isIt, isNon, within, b_add, b_sub, b_catT, b_catL, bias, biEv, tyOf, flRv, finE, mkSeq, PV.int?, PV.seq?, PV.lst?, ints?, bindP, bindPs, rangeItems, pick, eo_ii, eo_ss, eo_bb, eo_sn, eo_in, eo_ni, eo_ns, eo_nn, pq_ii, pq_ss, pq_bb, pq_in, pq_ni, pq_sn, pq_ns, pq_nn, Fm.pv, Sd.pv, hc, ixN, v_CHECK, u_beq, hu, hl, b_mod, hb, osd, LIM]
    · simp [f_behind_body, fn_eq, startE, slotOf, q_nil, q_cons, th_nx, th_rt, th_br, th_ct, th_if, s_asgN, s_asgT, s_par, p_nil, p_cons, s_expr, s_ret, s_retN, s_ite, s_setIdx, s_app, setAt, appTo, x_lit, x_glo, x_var, x_tup, x_lst, x_bin, x_neg, x_cmp, x_chain, x_ands, x_ors, x_and1, x_or1, andK_bl, orK_bl, x_and2, x_or2, x_not, x_ite, x_idx, sliceOf, x_slc, x_call, x_callK, x_bi, x_isi, x_rng1, x_rng2, a_nil, a_val, a_ref, k_nil, k_cons, o_none, o_some, val_fz, val_fr, d_slot, d_val, ds_nil, ds_cons, t_some, bw, use, peek, put, modify, truthy, isStr, avGet, avPut, slots, vals?, cmpOp, ords, isIt, isNon, within, b_add, b_sub, b_catT, b_catL, bias, biEv, tyOf, flRv, finE, mkSeq, PV.int?, PV.seq?, PV.lst?, ints?, bindP, bindPs, rangeItems, pick, eo_ii, eo_ss, eo_bb, eo_sn, eo_in, eo_ni, eo_ns, eo_nn, pq_ii, pq_ss, pq_bb, pq_in, pq_ni, pq_sn, pq_ns, pq_nn, Fm.pv, Sd.pv, hc, ixN, v_CHECK, u_beq, hu, hl, b_mod, hb, osd, LIM]
  · by_cases hl : 1 < l
    · simp [f_behind_body, fn_eq, startE, slotOf, q_nil, q_cons, th_nx, th_rt, th_br, th_ct, th_if, s_asgN, s_asgT, s_par, p_nil, p_cons, s_expr, s_ret, s_retN, s_ite, s_setIdx, s_app, setAt, appTo, x_lit, x_glo, x_var, x_tup, x_lst, x_bin, x_neg, x_cmp, x_chain, x_ands, x_ors, x_and1, x_or1, andK_bl, orK_bl, x_and2, x_or2, x_not, x_ite, x_idx, sliceOf, x_slc, x_call, x_callK, x_bi, x_isi, x_rng1, x_rng2, a_nil, a_val, a_ref, k_nil, k_cons, o_none, o_some, val_fz, val_fr, d_slot, d_val, ds_nil, ds_cons, t_some, bw, use, peek, put, modify, truthy, isStr, avGet, avPut, slots, vals?, cmpOp, ords, isIt, isNon, within, b_add, b_sub, b_catT, b_catL, bias, biEv, tyOf, flRv, finE, mkSeq, PV.int?, PV.seq?, PV.lst?, ints?, bindP, bindPs, rangeItems, pick, eo_ii, eo_ss, eo_bb, eo_sn, eo_in, eo_ni, eo_ns, eo_nn, pq_ii, pq_ss, pq_bb, pq_in, pq_ni, pq_sn, pq_ns, pq_nn, Fm.pv, Sd.pv, hc, ixN, v_CHECK, v_TAG, u_beq, hu, hl, b_mod, hb, osd, LIM]
    · simp [f_behind_body, fn_eq, startE, slotOf, q_nil, q_cons, th_nx, th_rt, th_br, th_ct, th_if, s_asgN, s_asgT, s_par, p_nil, p_cons, s_expr, s_ret, s_retN, s_ite, s_setIdx, s_app, setAt, appTo, x_lit, x_glo, x_var, x_tup, x_lst, x_bin, x_neg, x_cmp, x_chain, x_ands, x_ors, x_and1, x_or1, andK_bl, orK_bl, x_and2, x_or2, x_not, x_ite, x_idx, sliceOf, x_slc, x_call, x_callK, x_bi, x_isi, x_rng1, x_rng2, a_nil, a_val, a_ref, k_nil, k_cons, o_none, o_some, val_fz, val_fr, d_slot, d_val, ds_nil, ds_cons, t_some, bw, use, peek, put, modify, truthy, isStr, avGet, avPut, slots, vals?, cmpOp, ords, isIt, isNon, within, b_add, b_sub, b_catT, b_catL, bias, biEv, tyOf, flRv, finE, mkSeq, PV.int?, PV.seq?, PV.lst?, ints?, bindP, bindPs, rangeItems, pick, eo_ii, eo_ss, eo_bb, eo_sn, eo_in, eo_ni, eo_ns, eo_nn, pq_ii, pq_ss, pq_bb, pq_in, pq_ni, pq_sn, pq_ns, pq_nn, Fm.pv, Sd.pv, hc, ixN, v_CHECK, v_TAG, u_beq, hu, hl, b_mod, hb, osd, LIM]
theorem e_behind_tag (k : Nat) (f : Fm) (s : Int) : evCl G F (k + 2) c_behind_tag [(false, f.pv), (false, .int s)] = some (.fz (osd (stepS f .tag s)), []) := by
  refine (u_behind_tag (k + 1) _).trans ?_
  unfold stepS
  cases hu : useAt f s with
  | none => simp [f_behind_tag, fn_eq, startE, slotOf, q_nil, q_cons, th_nx, th_rt, th_br, th_ct, th_if, s_asgN, s_asgT, s_par, p_nil, p_cons, s_expr, s_ret, s_retN, s_ite, s_setIdx, s_app, setAt, appTo, x_lit, x_glo, x_var, x_tup, x_lst, x_bin, x_neg, x_cmp, x_chain, x_ands, x_ors, x_and1, x_or1, andK_bl, orK_bl, x_and2, x_or2, x_not, x_ite, x_idx, sliceOf, x_slc, x_call, x_callK, x_bi, x_isi, x_rng1, x_rng2, a_nil, a_val, a_ref, k_nil, k_cons, o_none, o_some, val_fz, val_fr, d_slot, d_val, ds_nil, ds_cons, t_some, bw, use, peek, put, modify, truthy, isStr, avGet, avPut, slots, vals?, cmpOp, ords, isIt, isNon, within, b_add, b_sub, b_catT, b_catL, bias, biEv, tyOf, flRv, finE, mkSeq, PV.int?, PV.seq?, PV.lst?, ints?, bindP, bindPs, rangeItems, pick, eo_ii, eo_ss, eo_bb, eo_sn, eo_in, eo_ni, eo_ns, eo_nn, pq_ii, pq_ss, pq_bb, pq_in, pq_ni, pq_sn, pq_ns, pq_nn, e_use_at, hu, ouse, osd]
  | some u => cases u <;> simp (decide := true) [f_behind_tag, fn_eq, startE, slotOf, q_nil, q_cons, th_nx, th_rt, th_br, th_ct, th_if, s_asgN, s_asgT, s_par, p_nil, p_cons, s_expr, s_ret, s_retN, s_ite, s_setIdx, s_app, setAt, appTo, x_lit, x_glo, x_var, x_tup, x_lst, x_bin, x_neg, x_cmp, x_chain, x_ands, x_ors, x_and1, x_or1, andK_bl, orK_bl, x_and2, x_or2, x_not, x_ite, x_idx, sliceOf, x_slc, x_call, x_callK, x_bi, x_isi, x_rng1, x_rng2, a_nil, a_val, a_ref, k_nil, k_cons, o_none, o_some, val_fz, val_fr, d_slot, d_val, ds_nil, ds_cons, t_some, bw, use, peek, put, modify, truthy, isStr, avGet, avPut, slots, vals?, cmpOp, ords, isIt, isNon, within, b_add, b_sub, b_catT, b_catL, bias, biEv, tyOf, flRv, finE, mkSeq, PV.int?, PV.seq?, PV.lst?, ints?, bindP, bindPs, rangeItems, pick, eo_ii, eo_ss, eo_bb, eo_sn, eo_in, eo_ni, eo_ns, eo_nn, pq_ii, pq_ss, pq_bb, pq_in, pq_ni, pq_sn, pq_ns, pq_nn, e_use_at, hu, ouse, osd, v_END, v_ROOM, v_STOP, v_OVER, U.str, Sd.pv, LIM] <;> rfl
theorem e_behind_head (k : Nat) (f : Fm) (p : Nat) (hp : p < f.hd.length) (s : Int) : evCl G F (k + 1) c_behind_head [(false, f.pv), (false, .int (p : Int)), (false, .int s)] = some (.fz (osd (stepS f (.head p) s)), []) := by
  refine (u_behind_head k _).trans ?_
  unfold stepS
  have hix : ixN (f.hd.map mkO).length (p : Int) = some p := by
    unfold ixN
    rw [List.length_map, if_pos (by omega), if_pos (by omega)]
    simp
  have hix2 : ixN f.hd.length (p : Int) = some p := by rw [List.length_map] at hix; exact hix
  have hlt : ((p : Int) + 1 < (f.hd.length : Int)) ↔ p + 1 < f.hd.length := by omega
  have hcast : ((p : Int) + 1) = ((p + 1 : Nat) : Int) := by omega
  have hg : f.hd[p]? = some f.hd[p] := List.getElem?_eq_getElem hp
  cases hm : f.hd[p] with
  | none =>
    rw [hm] at hg
    by_cases h2 : p + 1 < f.hd.length
    · simp [f_behind_head, fn_eq, startE, slotOf, q_nil, q_cons, th_nx, th_rt, th_br, th_ct, th_if, s_asgN, s_asgT, s_par, p_nil, p_cons, s_expr, s_ret, s_retN, s_ite, s_setIdx, s_app, setAt, appTo, x_lit, x_glo, x_var, x_tup, x_lst, x_bin, x_neg, x_cmp, x_chain, x_ands, x_ors, x_and1, x_or1, andK_bl, orK_bl, x_and2, x_or2, x_not, x_ite, x_idx, sliceOf, x_slc, x_call, x_callK, x_bi, x_isi, x_rng1, x_rng2, a_nil, a_val, a_ref, k_nil, k_cons, o_none, o_some, val_fz, val_fr, d_slot, d_val, ds_nil, ds_cons, t_some, bw, use, peek, put, modify, truthy, isStr, avGet, avPut, slots, vals?, cmpOp, ords, isIt, isNon, within, b_add, b_sub, b_catT, b_catL, bias, biEv, tyOf, flRv, finE, mkSeq, PV.int?, PV.seq?, PV.lst?, ints?, bindP, bindPs, rangeItems, pick, eo_ii, eo_ss, eo_bb, eo_sn, eo_in, eo_ni, eo_ns, eo_nn, pq_ii, pq_ss, pq_bb, pq_in, pq_ni, pq_sn, pq_ns, pq_nn, Fm.pv, ixN, hp, hg, hm, mkO, h2, hlt, osd, Sd.pv, LIM, v_TAG]
    · simp [f_behind_head, fn_eq, startE, slotOf, q_nil, q_cons, th_nx, th_rt, th_br, th_ct, th_if, s_asgN, s_asgT, s_par, p_nil, p_cons, s_expr, s_ret, s_retN, s_ite, s_setIdx, s_app, setAt, appTo, x_lit, x_glo, x_var, x_tup, x_lst, x_bin, x_neg, x_cmp, x_chain, x_ands, x_ors, x_and1, x_or1, andK_bl, orK_bl, x_and2, x_or2, x_not, x_ite, x_idx, sliceOf, x_slc, x_call, x_callK, x_bi, x_isi, x_rng1, x_rng2, a_nil, a_val, a_ref, k_nil, k_cons, o_none, o_some, val_fz, val_fr, d_slot, d_val, ds_nil, ds_cons, t_some, bw, use, peek, put, modify, truthy, isStr, avGet, avPut, slots, vals?, cmpOp, ords, isIt, isNon, within, b_add, b_sub, b_catT, b_catL, bias, biEv, tyOf, flRv, finE, mkSeq, PV.int?, PV.seq?, PV.lst?, ints?, bindP, bindPs, rangeItems, pick, eo_ii, eo_ss, eo_bb, eo_sn, eo_in, eo_ni, eo_ns, eo_nn, pq_ii, pq_ss, pq_bb, pq_in, pq_ni, pq_sn, pq_ns, pq_nn, Fm.pv, ixN, hp, hg, hm, mkO, h2, hlt, osd, Sd.pv, LIM, v_TAG]
  | some i =>
    rw [hm] at hg
    by_cases h1 : i = s
    · by_cases h2 : p + 1 < f.hd.length
      · simp [f_behind_head, fn_eq, startE, slotOf, q_nil, q_cons, th_nx, th_rt, th_br, th_ct, th_if, s_asgN, s_asgT, s_par, p_nil, p_cons, s_expr, s_ret, s_retN, s_ite, s_setIdx, s_app, setAt, appTo, x_lit, x_glo, x_var, x_tup, x_lst, x_bin, x_neg, x_cmp, x_chain, x_ands, x_ors, x_and1, x_or1, andK_bl, orK_bl, x_and2, x_or2, x_not, x_ite, x_idx, sliceOf, x_slc, x_call, x_callK, x_bi, x_isi, x_rng1, x_rng2, a_nil, a_val, a_ref, k_nil, k_cons, o_none, o_some, val_fz, val_fr, d_slot, d_val, ds_nil, ds_cons, t_some, bw, use, peek, put, modify, truthy, isStr, avGet, avPut, slots, vals?, cmpOp, ords, isIt, isNon, within, b_add, b_sub, b_catT, b_catL, bias, biEv, tyOf, flRv, finE, mkSeq, PV.int?, PV.seq?, PV.lst?, ints?, bindP, bindPs, rangeItems, pick, eo_ii, eo_ss, eo_bb, eo_sn, eo_in, eo_ni, eo_ns, eo_nn, pq_ii, pq_ss, pq_bb, pq_in, pq_ni, pq_sn, pq_ns, pq_nn, Fm.pv, ixN, hp, hg, hm, mkO, h1, h2, hlt, osd, Sd.pv, LIM, v_TAG]
      · simp [f_behind_head, fn_eq, startE, slotOf, q_nil, q_cons, th_nx, th_rt, th_br, th_ct, th_if, s_asgN, s_asgT, s_par, p_nil, p_cons, s_expr, s_ret, s_retN, s_ite, s_setIdx, s_app, setAt, appTo, x_lit, x_glo, x_var, x_tup, x_lst, x_bin, x_neg, x_cmp, x_chain, x_ands, x_ors, x_and1, x_or1, andK_bl, orK_bl, x_and2, x_or2, x_not, x_ite, x_idx, sliceOf, x_slc, x_call, x_callK, x_bi, x_isi, x_rng1, x_rng2, a_nil, a_val, a_ref, k_nil, k_cons, o_none, o_some, val_fz, val_fr, d_slot, d_val, ds_nil, ds_cons, t_some, bw, use, peek, put, modify, truthy, isStr, avGet, avPut, slots, vals?, cmpOp, ords, isIt, isNon, within, b_add, b_sub, b_catT, b_catL, bias, biEv, tyOf, flRv, finE, mkSeq, PV.int?, PV.seq?, PV.lst?, ints?, bindP, bindPs, rangeItems, pick, eo_ii, eo_ss, eo_bb, eo_sn, eo_in, eo_ni, eo_ns, eo_nn, pq_ii, pq_ss, pq_bb, pq_in, pq_ni, pq_sn, pq_ns, pq_nn, Fm.pv, ixN, hp, hg, hm, mkO, h1, h2, hlt, osd, Sd.pv, LIM, v_TAG]
    · simp [f_behind_head, fn_eq, startE, slotOf, q_nil, q_cons, th_nx, th_rt, th_br, th_ct, th_if, s_asgN, s_asgT, s_par, p_nil, p_cons, s_expr, s_ret, s_retN, s_ite, s_setIdx, s_app, setAt, appTo, x_lit, x_glo, x_var, x_tup, x_lst, x_bin, x_neg, x_cmp, x_chain, x_ands, x_ors, x_and1, x_or1, andK_bl, orK_bl, x_and2, x_or2, x_not, x_ite, x_idx, sliceOf, x_slc, x_call, x_callK, x_bi, x_isi, x_rng1, x_rng2, a_nil, a_val, a_ref, k_nil, k_cons, o_none, o_some, val_fz, val_fr, d_slot, d_val, ds_nil, ds_cons, t_some, bw, use, peek, put, modify, truthy, isStr, avGet, avPut, slots, vals?, cmpOp, ords, isIt, isNon, within, b_add, b_sub, b_catT, b_catL, bias, biEv, tyOf, flRv, finE, mkSeq, PV.int?, PV.seq?, PV.lst?, ints?, bindP, bindPs, rangeItems, pick, eo_ii, eo_ss, eo_bb, eo_sn, eo_in, eo_ni, eo_ns, eo_nn, pq_ii, pq_ss, pq_bb, pq_in, pq_ni, pq_sn, pq_ns, pq_nn, Fm.pv, ixN, hp, hg, hm, mkO, h1, hlt, osd, Sd.pv, LIM, v_TAG]
theorem e_step (k : Nat) (f : Fm) (h : f.Ok) (st : Sd) (ho : sdOk f (some st)) (s : Int) : evCl G F (k + 3) c_step [(false, f.pv), (false, st.pv), (false, .int s)] = some (.fz (osd (stepS f st s)), []) := by
  refine (u_step (k + 2) _).trans ?_
  cases st with
  | head p => simp (decide := true) [f_step, fn_eq, startE, slotOf, q_nil, q_cons, th_nx, th_rt, th_br, th_ct, th_if, s_asgN, s_asgT, s_par, p_nil, p_cons, s_expr, s_ret, s_retN, s_ite, s_setIdx, s_app, setAt, appTo, x_lit, x_glo, x_var, x_tup, x_lst, x_bin, x_neg, x_cmp, x_chain, x_ands, x_ors, x_and1, x_or1, andK_bl, orK_bl, x_and2, x_or2, x_not, x_ite, x_idx, sliceOf, x_slc, x_call, x_callK, x_bi, x_isi, x_rng1, x_rng2, a_nil, a_val, a_ref, k_nil, k_cons, o_none, o_some, val_fz, val_fr, d_slot, d_val, ds_nil, ds_cons, t_some, bw, use, peek, put, modify, truthy, isStr, avGet, avPut, slots, vals?, cmpOp, ords, isIt, isNon, within, b_add, b_sub, b_catT, b_catL, bias, biEv, tyOf, flRv, finE, mkSeq, PV.int?, PV.seq?, PV.lst?, ints?, bindP, bindPs, rangeItems, pick, eo_ii, eo_ss, eo_bb, eo_sn, eo_in, eo_ni, eo_ns, eo_nn, pq_ii, pq_ss, pq_bb, pq_in, pq_ni, pq_sn, pq_ns, pq_nn, Sd.pv, ixN, e_behind_head (k + 1) f p ho s]
  | tag => simp (decide := true) [f_step, fn_eq, startE, slotOf, q_nil, q_cons, th_nx, th_rt, th_br, th_ct, th_if, s_asgN, s_asgT, s_par, p_nil, p_cons, s_expr, s_ret, s_retN, s_ite, s_setIdx, s_app, setAt, appTo, x_lit, x_glo, x_var, x_tup, x_lst, x_bin, x_neg, x_cmp, x_chain, x_ands, x_ors, x_and1, x_or1, andK_bl, orK_bl, x_and2, x_or2, x_not, x_ite, x_idx, sliceOf, x_slc, x_call, x_callK, x_bi, x_isi, x_rng1, x_rng2, a_nil, a_val, a_ref, k_nil, k_cons, o_none, o_some, val_fz, val_fr, d_slot, d_val, ds_nil, ds_cons, t_some, bw, use, peek, put, modify, truthy, isStr, avGet, avPut, slots, vals?, cmpOp, ords, isIt, isNon, within, b_add, b_sub, b_catT, b_catL, bias, biEv, tyOf, flRv, finE, mkSeq, PV.int?, PV.seq?, PV.lst?, ints?, bindP, bindPs, rangeItems, pick, eo_ii, eo_ss, eo_bb, eo_sn, eo_in, eo_ni, eo_ns, eo_nn, pq_ii, pq_ss, pq_bb, pq_in, pq_ni, pq_sn, pq_ns, pq_nn, Sd.pv, ixN, e_behind_tag k f s]
  | room => simp (decide := true) [f_step, fn_eq, startE, slotOf, q_nil, q_cons, th_nx, th_rt, th_br, th_ct, th_if, s_asgN, s_asgT, s_par, p_nil, p_cons, s_expr, s_ret, s_retN, s_ite, s_setIdx, s_app, setAt, appTo, x_lit, x_glo, x_var, x_tup, x_lst, x_bin, x_neg, x_cmp, x_chain, x_ands, x_ors, x_and1, x_or1, andK_bl, orK_bl, x_and2, x_or2, x_not, x_ite, x_idx, sliceOf, x_slc, x_call, x_callK, x_bi, x_isi, x_rng1, x_rng2, a_nil, a_val, a_ref, k_nil, k_cons, o_none, o_some, val_fz, val_fr, d_slot, d_val, ds_nil, ds_cons, t_some, bw, use, peek, put, modify, truthy, isStr, avGet, avPut, slots, vals?, cmpOp, ords, isIt, isNon, within, b_add, b_sub, b_catT, b_catL, bias, biEv, tyOf, flRv, finE, mkSeq, PV.int?, PV.seq?, PV.lst?, ints?, bindP, bindPs, rangeItems, pick, eo_ii, eo_ss, eo_bb, eo_sn, eo_in, eo_ni, eo_ns, eo_nn, pq_ii, pq_ss, pq_bb, pq_in, pq_ni, pq_sn, pq_ns, pq_nn, Sd.pv, ixN, stepS, osd, v_ROOM] <;> rfl
  | over => simp (decide := true) [f_step, fn_eq, startE, slotOf, q_nil, q_cons, th_nx, th_rt, th_br, th_ct, th_if, s_asgN, s_asgT, s_par, p_nil, p_cons, s_expr, s_ret, s_retN, s_ite, s_setIdx, s_app, setAt, appTo, x_lit, x_glo, x_var, x_tup, x_lst, x_bin, x_neg, x_cmp, x_chain, x_ands, x_ors, x_and1, x_or1, andK_bl, orK_bl, x_and2, x_or2, x_not, x_ite, x_idx, sliceOf, x_slc, x_call, x_callK, x_bi, x_isi, x_rng1, x_rng2, a_nil, a_val, a_ref, k_nil, k_cons, o_none, o_some, val_fz, val_fr, d_slot, d_val, ds_nil, ds_cons, t_some, bw, use, peek, put, modify, truthy, isStr, avGet, avPut, slots, vals?, cmpOp, ords, isIt, isNon, within, b_add, b_sub, b_catT, b_catL, bias, biEv, tyOf, flRv, finE, mkSeq, PV.int?, PV.seq?, PV.lst?, ints?, bindP, bindPs, rangeItems, pick, eo_ii, eo_ss, eo_bb, eo_sn, eo_in, eo_ni, eo_ns, eo_nn, pq_ii, pq_ss, pq_bb, pq_in, pq_ni, pq_sn, pq_ns, pq_nn, Sd.pv, ixN, stepS, osd]
  | len u => simp (decide := true) [f_step, fn_eq, startE, slotOf, q_nil, q_cons, th_nx, th_rt, th_br, th_ct, th_if, s_asgN, s_asgT, s_par, p_nil, p_cons, s_expr, s_ret, s_retN, s_ite, s_setIdx, s_app, setAt, appTo, x_lit, x_glo, x_var, x_tup, x_lst, x_bin, x_neg, x_cmp, x_chain, x_ands, x_ors, x_and1, x_or1, andK_bl, orK_bl, x_and2, x_or2, x_not, x_ite, x_idx, sliceOf, x_slc, x_call, x_callK, x_bi, x_isi, x_rng1, x_rng2, a_nil, a_val, a_ref, k_nil, k_cons, o_none, o_some, val_fz, val_fr, d_slot, d_val, ds_nil, ds_cons, t_some, bw, use, peek, put, modify, truthy, isStr, avGet, avPut, slots, vals?, cmpOp, ords, isIt, isNon, within, b_add, b_sub, b_catT, b_catL, bias, biEv, tyOf, flRv, finE, mkSeq, PV.int?, PV.seq?, PV.lst?, ints?, bindP, bindPs, rangeItems, pick, eo_ii, eo_ss, eo_bb, eo_sn, eo_in, eo_ni, eo_ns, eo_nn, pq_ii, pq_ss, pq_bb, pq_in, pq_ni, pq_sn, pq_ns, pq_nn, Sd.pv, ixN, e_behind_length k f h u s]
  | sec u x => simp (decide := true) [f_step, fn_eq, startE, slotOf, q_nil, q_cons, th_nx, th_rt, th_br, th_ct, th_if, s_asgN, s_asgT, s_par, p_nil, p_cons, s_expr, s_ret, s_retN, s_ite, s_setIdx, s_app, setAt, appTo, x_lit, x_glo, x_var, x_tup, x_lst, x_bin, x_neg, x_cmp, x_chain, x_ands, x_ors, x_and1, x_or1, andK_bl, orK_bl, x_and2, x_or2, x_not, x_ite, x_idx, sliceOf, x_slc, x_call, x_callK, x_bi, x_isi, x_rng1, x_rng2, a_nil, a_val, a_ref, k_nil, k_cons, o_none, o_some, val_fz, val_fr, d_slot, d_val, ds_nil, ds_cons, t_some, bw, use, peek, put, modify, truthy, isStr, avGet, avPut, slots, vals?, cmpOp, ords, isIt, isNon, within, b_add, b_sub, b_catT, b_catL, bias, biEv, tyOf, flRv, finE, mkSeq, PV.int?, PV.seq?, PV.lst?, ints?, bindP, bindPs, rangeItems, pick, eo_ii, eo_ss, eo_bb, eo_sn, eo_in, eo_ni, eo_ns, eo_nn, pq_ii, pq_ss, pq_bb, pq_in, pq_ni, pq_sn, pq_ns, pq_nn, Sd.pv, ixN, e_behind_second k f h u x s]
  | body u l t =>
    have hb := e_behind_body (k + 1) f h u l t s
    simp only [Sd.pv] at hb
    simp (decide := true) [f_step, fn_eq, startE, slotOf, q_nil, q_cons, th_nx, th_rt, th_br, th_ct, th_if, s_asgN, s_asgT, s_par, p_nil, p_cons, s_expr, s_ret, s_retN, s_ite, s_setIdx, s_app, setAt, appTo, x_lit, x_glo, x_var, x_tup, x_lst, x_bin, x_neg, x_cmp, x_chain, x_ands, x_ors, x_and1, x_or1, andK_bl, orK_bl, x_and2, x_or2, x_not, x_ite, x_idx, sliceOf, x_slc, x_call, x_callK, x_bi, x_isi, x_rng1, x_rng2, a_nil, a_val, a_ref, k_nil, k_cons, o_none, o_some, val_fz, val_fr, d_slot, d_val, ds_nil, ds_cons, t_some, bw, use, peek, put, modify, truthy, isStr, avGet, avPut, slots, vals?, cmpOp, ords, isIt, isNon, within, b_add, b_sub, b_catT, b_catL, bias, biEv, tyOf, flRv, finE, mkSeq, PV.int?, PV.seq?, PV.lst?, ints?, bindP, bindPs, rangeItems, pick, eo_ii, eo_ss, eo_bb, eo_sn, eo_in, eo_ni, eo_ns, eo_nn, pq_ii, pq_ss, pq_bb, pq_in, pq_ni, pq_sn, pq_ns, pq_nn, Sd.pv, ixN, hb]
  | sum t =>
    unfold stepS
    by_cases hs : s = t
    · simp (decide := true) [f_step, fn_eq, startE, slotOf, q_nil, q_cons, th_nx, th_rt, th_br, th_ct, th_if, s_asgN, s_asgT, s_par, p_nil, p_cons, s_expr, s_ret, s_retN, s_ite, s_setIdx, s_app, setAt, appTo, x_lit, x_glo, x_var, x_tup, x_lst, x_bin, x_neg, x_cmp, x_chain, x_ands, x_ors, x_and1, x_or1, andK_bl, orK_bl, x_and2, x_or2, x_not, x_ite, x_idx, sliceOf, x_slc, x_call, x_callK, x_bi, x_isi, x_rng1, x_rng2, a_nil, a_val, a_ref, k_nil, k_cons, o_none, o_some, val_fz, val_fr, d_slot, d_val, ds_nil, ds_cons, t_some, bw, use, peek, put, modify, truthy, isStr, avGet, avPut, slots, vals?, cmpOp, ords, isIt, isNon, within, b_add, b_sub, b_catT, b_catL, bias, biEv, tyOf, flRv, finE, mkSeq, PV.int?, PV.seq?, PV.lst?, ints?, bindP, bindPs, rangeItems, pick, eo_ii, eo_ss, eo_bb, eo_sn, eo_in, eo_ni, eo_ns, eo_nn, pq_ii, pq_ss, pq_bb, pq_in, pq_ni, pq_sn, pq_ns, pq_nn, Sd.pv, ixN, hs, osd, v_TAG] <;> rfl
    · simp (decide := true) [f_step, fn_eq, startE, slotOf, q_nil, q_cons, th_nx, th_rt, th_br, th_ct, th_if, s_asgN, s_asgT, s_par, p_nil, p_cons, s_expr, s_ret, s_retN, s_ite, s_setIdx, s_app, setAt, appTo, x_lit, x_glo, x_var, x_tup, x_lst, x_bin, x_neg, x_cmp, x_chain, x_ands, x_ors, x_and1, x_or1, andK_bl, orK_bl, x_and2, x_or2, x_not, x_ite, x_idx, sliceOf, x_slc, x_call, x_callK, x_bi, x_isi, x_rng1, x_rng2, a_nil, a_val, a_ref, k_nil, k_cons, o_none, o_some, val_fz, val_fr, d_slot, d_val, ds_nil, ds_cons, t_some, bw, use, peek, put, modify, truthy, isStr, avGet, avPut, slots, vals?, cmpOp, ords, isIt, isNon, within, b_add, b_sub, b_catT, b_catL, bias, biEv, tyOf, flRv, finE, mkSeq, PV.int?, PV.seq?, PV.lst?, ints?, bindP, bindPs, rangeItems, pick, eo_ii, eo_ss, eo_bb, eo_sn, eo_in, eo_ni, eo_ns, eo_nn, pq_ii, pq_ss, pq_bb, pq_in, pq_ni, pq_sn, pq_ns, pq_nn, Sd.pv, ixN, hs, osd, v_TAG]
theorem step_ok (f : Fm) (st : Sd) (s : Int) : sdOk f (stepS f st s) := by
  have hh : ∀ p : Nat, sdOk f (some (if p + 1 < f.hd.length then .head (p + 1) else .tag)) := fun p => by
    split
    · assumption
    · exact True.intro
  have hb : ∀ u l, sdOk f (some (bodyS u l)) := fun u l => by
    unfold bodyS
    split
    · exact True.intro
    · split <;> exact True.intro
  unfold stepS
  split <;> (repeat' split) <;> first | exact True.intro | assumption | exact hb _ _
theorem osd_ne (st : Sd) : isNon st.pv = false := by cases st <;> rfl
theorem first_ok (f : Fm) : sdOk f (some (firstS f)) := by
  unfold firstS
  split
  · exact True.intro
  · rename_i h
    show 0 < f.hd.length
    exact List.length_pos_iff.mpr h
end EV.Law
set_option linter.all false
set_option maxRecDepth 100000
namespace EV.Law
open PySem EV
/-! ### runs -/
theorem step_body (f : Fm) (u : U) (l t s : Int) : stepS f (.body u l t) s = some (if 1 < l then .body u (l - 1) (if u = .check then (t + s) % f.b else t) else if u = .check then .sum (if u = .check then (t + s) % f.b else t) else .tag) := rfl
theorem step_len (f : Fm) (u : U) (s : Int) : stepS f (.len u) s = if f.w = .one then (if s ≤ f.m then some (bodyS u s) else none) else if (if f.w = .high then s * f.b else s) ≤ f.m then some (.sec u s) else none := rfl
theorem step_sec (f : Fm) (u : U) (x s : Int) : stepS f (.sec u x) s = if (if f.w = .high then x * f.b + s else s * f.b + x) ≤ f.m then some (bodyS u (if f.w = .high then x * f.b + s else s * f.b + x)) else none := rfl
theorem step_sum (f : Fm) (t s : Int) : stepS f (.sum t) s = if s = t then some .tag else none := rfl
theorem run_none (f : Fm) : ∀ xs, runS f none xs = none
  | [] => rfl
  | _ :: _ => rfl
theorem run_room (f : Fm) : ∀ xs, runS f (some .room) xs = some .room
  | [] => rfl
  | x :: xs => run_room f xs
theorem run_over (f : Fm) (x : Int) (xs : List Int) : runS f (some .over) (x :: xs) = none := run_none f xs
theorem run_app (f : Fm) : ∀ (xs ys : List Int) (st : Option Sd), runS f st (xs ++ ys) = runS f (runS f st xs) ys
  | [], _, st => by cases st <;> rfl
  | x :: xs, ys, none => by rw [List.cons_append, run_none, run_none, run_none]
  | x :: xs, ys, some st => run_app f xs ys (stepS f st x)
/-- what a body's signs come to -/
def tot (f : Fm) (u : U) (t : Int) (ys : List Int) : Int := if u = .check then (t + ys.sum) % f.b else t
theorem tot_step (f : Fm) (u : U) (t y : Int) (ys : List Int) (ht : u = .check → t % f.b = t) : tot f u (if u = .check then (t + y) % f.b else t) ys = tot f u t (y :: ys) := by
  unfold tot
  by_cases hu : u = .check
  · rw [if_pos hu, if_pos hu, if_pos hu, List.sum_cons]
    rw [Int.emod_add_emod, Int.add_assoc]
  · rw [if_neg hu, if_neg hu, if_neg hu]
theorem run_body_short (f : Fm) (u : U) : ∀ (ys : List Int) (l t : Int), (ys.length : Int) < l → (u = .check → t % f.b = t) → runS f (some (.body u l t)) ys = some (.body u (l - ys.length) (if ys = [] then t else tot f u t ys))
  | [], l, t, _, _ => by simp [runS]
  | y :: ys, l, t, h, ht => by
    have hl : 1 < l := by simp at h; omega
    have h2 : (ys.length : Int) < l - 1 := by simp at h; omega
    show runS f (stepS f (.body u l t) y) ys = _
    have e : stepS f (.body u l t) y = some (.body u (l - 1) (if u = .check then (t + y) % f.b else t)) := by
      rw [step_body, if_pos hl]
    rw [e, run_body_short f u ys (l - 1) _ h2 (fun hu => by rw [if_pos hu, Int.emod_emod])]
    have e2 : l - 1 - (ys.length : Int) = l - ((y :: ys).length : Int) := by simp; omega
    rw [e2, if_neg (List.cons_ne_nil y ys)]
    congr 2
    by_cases hy : ys = []
    · subst hy
      simp [tot]
    · rw [if_neg hy, tot_step f u t y ys ht]
theorem run_body_full (f : Fm) (u : U) : ∀ (ys : List Int) (l t : Int), (ys.length : Int) = l → 0 < l → (u = .check → t % f.b = t) → runS f (some (.body u l t)) ys = some (if u = .check then .sum (tot f u t ys) else .tag)
  | [], l, t, h, h0, _ => by simp at h; omega
  | [y], l, t, h, h0, ht => by
    have hl : ¬ 1 < l := by simp at h; omega
    show stepS f (.body u l t) y = _
    rw [step_body, if_neg hl]
    by_cases hu : u = .check
    · simp [hu, tot]
    · simp [hu]
  | y :: z :: ys, l, t, h, h0, ht => by
    have hl : 1 < l := by simp at h; omega
    show runS f (stepS f (.body u l t) y) (z :: ys) = _
    have e : stepS f (.body u l t) y = some (.body u (l - 1) (if u = .check then (t + y) % f.b else t)) := by
      rw [step_body, if_pos hl]
    rw [e, run_body_full f u (z :: ys) (l - 1) _ (by simp at h ⊢; omega) (by omega) (fun hu => by rw [if_pos hu, Int.emod_emod]), tot_step f u t y (z :: ys) ht]
/-! ### the law's own defs -/
def luse (f : Fm) (s : Int) : Str := match useAt f s with
  | some u => u.str
  | none => ""
theorem luse_loop (k : Nat) (fv : PV) (s : Int) : ∀ (tg : List (Int × U)) (o : Option PV), ∃ o', forLoop (fT G (evCl G F k) (.name 2)
    [.ite (.cmp .eq (.idx (.var 2) (.lit (.int 0))) (.var 1))
       [.ret (.idx (.var 2) (.lit (.int 1)))]
       []]) (tg.map row) [.fz fv, .fz (.int s), sl o] = some (match tg.find? (fun r => r.1 == s) with | some r => .rt (.fz (.str r.2.str)) | none => .nx, [.fz fv, .fz (.int s), sl o'])
  | [], o => ⟨o, rfl⟩
  | x :: tg, o => by
    obtain ⟨a, ih⟩ := luse_loop k fv s tg (some (row x))
    by_cases hx : x.1 = s
    · refine ⟨some (row x), ?_⟩
      rw [List.map_cons, forLoop]
      have hf : (x :: tg).find? (fun r => r.1 == s) = some x := by simp [hx]
      rw [hf]
      cases o <;> simp [fT, fn_eq, startE, slotOf, q_nil, q_cons, th_nx, th_rt, th_br, th_ct, th_if, s_asgN, s_asgT, s_par, p_nil, p_cons, s_expr, s_ret, s_retN, s_ite, s_setIdx, s_app, setAt, appTo, x_lit, x_glo, x_var, x_tup, x_lst, x_bin, x_neg, x_cmp, x_chain, x_ands, x_ors, x_and1, x_or1, andK_bl, orK_bl, x_and2, x_or2, x_not, x_ite, x_idx, sliceOf, x_slc, x_call, x_callK, x_bi, x_isi, x_rng1, x_rng2, a_nil, a_val, a_ref, k_nil, k_cons, o_none, o_some, val_fz, val_fr, d_slot, d_val, ds_nil, ds_cons, t_some, bw, use, peek, put, modify, truthy, isStr, avGet, avPut, slots, vals?, cmpOp, ords, isIt, isNon, within, b_add, b_sub, b_catT, b_catL, bias, biEv, tyOf, flRv, finE, mkSeq, PV.int?, PV.seq?, PV.lst?, ints?, bindP, bindPs, rangeItems, pick, eo_ii, eo_ss, eo_bb, eo_sn, eo_in, eo_ni, eo_ns, eo_nn, pq_ii, pq_ss, pq_bb, pq_in, pq_ni, pq_sn, pq_ns, pq_nn, sl, row, ixN, hx]
    · refine ⟨a, ?_⟩
      rw [List.map_cons, forLoop]
      have hf : (x :: tg).find? (fun r => r.1 == s) = tg.find? (fun r => r.1 == s) := by simp [hx]
      rw [hf, ← ih]
      cases o <;> simp [fT, fn_eq, startE, slotOf, q_nil, q_cons, th_nx, th_rt, th_br, th_ct, th_if, s_asgN, s_asgT, s_par, p_nil, p_cons, s_expr, s_ret, s_retN, s_ite, s_setIdx, s_app, setAt, appTo, x_lit, x_glo, x_var, x_tup, x_lst, x_bin, x_neg, x_cmp, x_chain, x_ands, x_ors, x_and1, x_or1, andK_bl, orK_bl, x_and2, x_or2, x_not, x_ite, x_idx, sliceOf, x_slc, x_call, x_callK, x_bi, x_isi, x_rng1, x_rng2, a_nil, a_val, a_ref, k_nil, k_cons, o_none, o_some, val_fz, val_fr, d_slot, d_val, ds_nil, ds_cons, t_some, bw, use, peek, put, modify, truthy, isStr, avGet, avPut, slots, vals?, cmpOp, ords, isIt, isNon, within, b_add, b_sub, b_catT, b_catL, bias, biEv, tyOf, flRv, finE, mkSeq, PV.int?, PV.seq?, PV.lst?, ints?, bindP, bindPs, rangeItems, pick, eo_ii, eo_ss, eo_bb, eo_sn, eo_in, eo_ni, eo_ns, eo_nn, pq_ii, pq_ss, pq_bb, pq_in, pq_ni, pq_sn, pq_ns, pq_nn, sl, row, ixN, hx]
theorem e_law_use (k : Nat) (f : Fm) (s : Int) : evCl G F (k + 1) c_law_use [(false, f.pv), (false, .int s)] = some (.fz (.str (luse f s)), []) := by
  refine (u_law_use k _).trans ?_
  obtain ⟨a, hl⟩ := luse_loop k f.pv s f.tg none
  unfold luse useAt
  have hl : forLoop _ (f.tg.map row) [.fz f.pv, .fz (.int s), .un] = _ := hl
  have hi : evI G (evCl G F k) (.ex (.idx (.var 0) (.lit (.int 4)))) [.fz f.pv, .fz (.int s), .un] = some (f.tg.map row, [.fz f.pv, .fz (.int s), .un]) := rfl
  simp [f_law_use, fn_eq, startE, slotOf, q_nil, q_cons, th_nx, th_rt, th_br, th_ct, th_if, s_asgN, s_asgT, s_par, p_nil, p_cons, s_expr, s_ret, s_retN, s_ite, s_setIdx, s_app, setAt, appTo, x_lit, x_glo, x_var, x_tup, x_lst, x_bin, x_neg, x_cmp, x_chain, x_ands, x_ors, x_and1, x_or1, andK_bl, orK_bl, x_and2, x_or2, x_not, x_ite, x_idx, sliceOf, x_slc, x_call, x_callK, x_bi, x_isi, x_rng1, x_rng2, a_nil, a_val, a_ref, k_nil, k_cons, o_none, o_some, val_fz, val_fr, d_slot, d_val, ds_nil, ds_cons, t_some, bw, use, peek, put, modify, truthy, isStr, avGet, avPut, slots, vals?, cmpOp, ords, isIt, isNon, within, b_add, b_sub, b_catT, b_catL, bias, biEv, tyOf, flRv, finE, mkSeq, PV.int?, PV.seq?, PV.lst?, ints?, bindP, bindPs, rangeItems, pick, eo_ii, eo_ss, eo_bb, eo_sn, eo_in, eo_ni, eo_ns, eo_nn, pq_ii, pq_ss, pq_bb, pq_in, pq_ni, pq_sn, pq_ns, pq_nn, s_for, hi, hl]
  cases h : f.tg.find? (fun r => r.1 == s) with
  | some r => simp [fn_eq, startE, slotOf, q_nil, q_cons, th_nx, th_rt, th_br, th_ct, th_if, s_asgN, s_asgT, s_par, p_nil, p_cons, s_expr, s_ret, s_retN, s_ite, s_setIdx, s_app, setAt, appTo, x_lit, x_glo, x_var, x_tup, x_lst, x_bin, x_neg, x_cmp, x_chain, x_ands, x_ors, x_and1, x_or1, andK_bl, orK_bl, x_and2, x_or2, x_not, x_ite, x_idx, sliceOf, x_slc, x_call, x_callK, x_bi, x_isi, x_rng1, x_rng2, a_nil, a_val, a_ref, k_nil, k_cons, o_none, o_some, val_fz, val_fr, d_slot, d_val, ds_nil, ds_cons, t_some, bw, use, peek, put, modify, truthy, isStr, avGet, avPut, slots, vals?, cmpOp, ords, isIt, isNon, within, b_add, b_sub, b_catT, b_catL, bias, biEv, tyOf, flRv, finE, mkSeq, PV.int?, PV.seq?, PV.lst?, ints?, bindP, bindPs, rangeItems, pick, eo_ii, eo_ss, eo_bb, eo_sn, eo_in, eo_ni, eo_ns, eo_nn, pq_ii, pq_ss, pq_bb, pq_in, pq_ni, pq_sn, pq_ns, pq_nn]
  | none =>
    cases ho : f.o <;> simp (decide := true) [fn_eq, startE, slotOf, q_nil, q_cons, th_nx, th_rt, th_br, th_ct, th_if, s_asgN, s_asgT, s_par, p_nil, p_cons, s_expr, s_ret, s_retN, s_ite, s_setIdx, s_app, setAt, appTo, x_lit, x_glo, x_var, x_tup, x_lst, x_bin, x_neg, x_cmp, x_chain, x_ands, x_ors, x_and1, x_or1, andK_bl, orK_bl, x_and2, x_or2, x_not, x_ite, x_idx, sliceOf, x_slc, x_call, x_callK, x_bi, x_isi, x_rng1, x_rng2, a_nil, a_val, a_ref, k_nil, k_cons, o_none, o_some, val_fz, val_fr, d_slot, d_val, ds_nil, ds_cons, t_some, bw, use, peek, put, modify, truthy, isStr, avGet, avPut, slots, vals?, cmpOp, ords, isIt, isNon, within, b_add, b_sub, b_catT, b_catL, bias, biEv, tyOf, flRv, finE, mkSeq, PV.int?, PV.seq?, PV.lst?, ints?, bindP, bindPs, rangeItems, pick, eo_ii, eo_ss, eo_bb, eo_sn, eo_in, eo_ni, eo_ns, eo_nn, pq_ii, pq_ss, pq_bb, pq_in, pq_ni, pq_sn, pq_ns, pq_nn, Fm.pv, oth, ho, ixN, U.str]
inductive LR | ok (w : Int) (at_ : Nat) | bad (p : Nat) (w : Str)
def LR.pv : LR → PV
  | .ok w a => .tup [.int w, .int (a : Int)]
  | .bad p w => .tup [.non, .tup [.int (p : Int), .str w]]
def longS (f : Fm) (xs : List Int) (a : Nat) : LR := match xs[a]? with
  | none => .bad xs.length "short"
  | some x => if f.w = .one then (if x ≤ f.m then .ok x (a + 1) else .bad a "length") else
    if f.m < (if f.w = .high then x * f.b else x) then .bad a "length" else
    match xs[a + 1]? with
    | none => .bad xs.length "short"
    | some y => if (if f.w = .high then x * f.b + y else y * f.b + x) ≤ f.m then .ok (if f.w = .high then x * f.b + y else y * f.b + x) (a + 2) else .bad (a + 1) "length"
theorem ix_nat (n p : Nat) : ixN n (p : Int) = if p < n then some p else none := by
  unfold ixN
  rw [if_pos (by omega)]
  by_cases h : p < n
  · rw [if_pos (by omega), if_pos h]; simp
  · rw [if_neg (by omega), if_neg h]
theorem ix_nat1 (n p : Nat) : ixN n ((p : Int) + 1) = if p + 1 < n then some (p + 1) else none := by
  have := ix_nat n (p + 1)
  rw [← this]; congr 1
set_option maxHeartbeats 2000000 in
theorem e_law_long (k : Nat) (f : Fm) (h : f.Ok) (xs : List Int) (a : Nat) : evCl G F (k + 1) c_law_long [(false, f.pv), (false, sg xs), (false, .int (a : Int))] = some (.fz (longS f xs a).pv, []) := by
  refine (u_law_long k _).trans ?_
  have hb1 : -18446744073709551616 < f.b := by have := h.b1; omega
  have hb2 : f.b < 18446744073709551616 := by have := h.b2; omega
  have i0 : ixN 6 0 = some 0 := rfl
  have i2 : ixN 6 2 = some 2 := rfl
  have i3 : ixN 6 3 = some 3 := rfl
  unfold longS
  by_cases ha : a < xs.length
  · have g1 : xs[a]? = some xs[a] := List.getElem?_eq_getElem ha
    have c1 : ¬ ((xs.length : Int) ≤ (a : Int)) := by omega
    rw [g1]
    generalize hx : xs[a] = x at g1 ⊢
    by_cases h1 : f.w = .one
    · by_cases h2 : x ≤ f.m
      · simp [f_law_long, fn_eq, startE, slotOf, q_nil, q_cons, th_nx, th_rt, th_br, th_ct, th_if, s_asgN, s_asgT, s_par, p_nil, p_cons, s_expr, s_ret, s_retN, s_ite, s_setIdx, s_app, setAt, appTo, x_lit, x_glo, x_var, x_tup, x_lst, x_bin, x_neg, x_cmp, x_chain, x_ands, x_ors, x_and1, x_or1, andK_bl, orK_bl, x_and2, x_or2, x_not, x_ite, x_idx, sliceOf, x_slc, x_call, x_callK, x_bi, x_isi, x_rng1, x_rng2, a_nil, a_val, a_ref, k_nil, k_cons, o_none, o_some, val_fz, val_fr, d_slot, d_val, ds_nil, ds_cons, t_some, bw, use, peek, put, modify, truthy, isStr, avGet, avPut, slots, vals?, cmpOp, ords, isIt, isNon, within, b_add, b_sub, b_catT, b_catL, bias, biEv, tyOf, flRv, finE, mkSeq, PV.int?, PV.seq?, PV.lst?, ints?, bindP, bindPs, rangeItems, pick, eo_ii, eo_ss, eo_bb, eo_sn, eo_in, eo_ni, eo_ns, eo_nn, pq_ii, pq_ss, pq_bb, pq_in, pq_ni, pq_sn, pq_ns, pq_nn, Fm.pv, sg, i0, i2, i3, c1, ix_nat, ha, g1, hx, w_one, h1, h2, LR.pv, LIM]
      · simp [f_law_long, fn_eq, startE, slotOf, q_nil, q_cons, th_nx, th_rt, th_br, th_ct, th_if, s_asgN, s_asgT, s_par, p_nil, p_cons, s_expr, s_ret, s_retN, s_ite, s_setIdx, s_app, setAt, appTo, x_lit, x_glo, x_var, x_tup, x_lst, x_bin, x_neg, x_cmp, x_chain, x_ands, x_ors, x_and1, x_or1, andK_bl, orK_bl, x_and2, x_or2, x_not, x_ite, x_idx, sliceOf, x_slc, x_call, x_callK, x_bi, x_isi, x_rng1, x_rng2, a_nil, a_val, a_ref, k_nil, k_cons, o_none, o_some, val_fz, val_fr, d_slot, d_val, ds_nil, ds_cons, t_some, bw, use, peek, put, modify, truthy, isStr, avGet, avPut, slots, vals?, cmpOp, ords, isIt, isNon, within, b_add, b_sub, b_catT, b_catL, bias, biEv, tyOf, flRv, finE, mkSeq, PV.int?, PV.seq?, PV.lst?, ints?, bindP, bindPs, rangeItems, pick, eo_ii, eo_ss, eo_bb, eo_sn, eo_in, eo_ni, eo_ns, eo_nn, pq_ii, pq_ss, pq_bb, pq_in, pq_ni, pq_sn, pq_ns, pq_nn, Fm.pv, sg, i0, i2, i3, c1, ix_nat, ha, g1, hx, w_one, h1, h2, LR.pv, LIM]
    · by_cases h3 : f.w = .high
      · by_cases h4 : f.m < x * f.b
        · simp [f_law_long, fn_eq, startE, slotOf, q_nil, q_cons, th_nx, th_rt, th_br, th_ct, th_if, s_asgN, s_asgT, s_par, p_nil, p_cons, s_expr, s_ret, s_retN, s_ite, s_setIdx, s_app, setAt, appTo, x_lit, x_glo, x_var, x_tup, x_lst, x_bin, x_neg, x_cmp, x_chain, x_ands, x_ors, x_and1, x_or1, andK_bl, orK_bl, x_and2, x_or2, x_not, x_ite, x_idx, sliceOf, x_slc, x_call, x_callK, x_bi, x_isi, x_rng1, x_rng2, a_nil, a_val, a_ref, k_nil, k_cons, o_none, o_some, val_fz, val_fr, d_slot, d_val, ds_nil, ds_cons, t_some, bw, use, peek, put, modify, truthy, isStr, avGet, avPut, slots, vals?, cmpOp, ords, isIt, isNon, within, b_add, b_sub, b_catT, b_catL, bias, biEv, tyOf, flRv, finE, mkSeq, PV.int?, PV.seq?, PV.lst?, ints?, bindP, bindPs, rangeItems, pick, eo_ii, eo_ss, eo_bb, eo_sn, eo_in, eo_ni, eo_ns, eo_nn, pq_ii, pq_ss, pq_bb, pq_in, pq_ni, pq_sn, pq_ns, pq_nn, Fm.pv, sg, i0, i2, i3, c1, ix_nat, ix_nat1, ha, g1, hx, w_one, w_high, h1, h3, h4, b_mulR, hb1, hb2, LR.pv, LIM]
        · by_cases hb : a + 1 < xs.length
          · have g2 : xs[a + 1]? = some xs[a + 1] := List.getElem?_eq_getElem hb
            have c2 : ¬ ((xs.length : Int) ≤ (a : Int) + 1) := by omega
            generalize hy : xs[a + 1] = y at g2 ⊢
            rw [g2]
            by_cases h5 : x * f.b + y ≤ f.m
            · simp [f_law_long, fn_eq, startE, slotOf, q_nil, q_cons, th_nx, th_rt, th_br, th_ct, th_if, s_asgN, s_asgT, s_par, p_nil, p_cons, s_expr, s_ret, s_retN, s_ite, s_setIdx, s_app, setAt, appTo, x_lit, x_glo, x_var, x_tup, x_lst, x_bin, x_neg, x_cmp, x_chain, x_ands, x_ors, x_and1, x_or1, andK_bl, orK_bl, x_and2, x_or2, x_not, x_ite, x_idx, sliceOf, x_slc, x_call, x_callK, x_bi, x_isi, x_rng1, x_rng2, a_nil, a_val, a_ref, k_nil, k_cons, o_none, o_some, val_fz, val_fr, d_slot, d_val, ds_nil, ds_cons, t_some, bw, use, peek, put, modify, truthy, isStr, avGet, avPut, slots, vals?, cmpOp, ords, isIt, isNon, within, b_add, b_sub, b_catT, b_catL, bias, biEv, tyOf, flRv, finE, mkSeq, PV.int?, PV.seq?, PV.lst?, ints?, bindP, bindPs, rangeItems, pick, eo_ii, eo_ss, eo_bb, eo_sn, eo_in, eo_ni, eo_ns, eo_nn, pq_ii, pq_ss, pq_bb, pq_in, pq_ni, pq_sn, pq_ns, pq_nn, Fm.pv, sg, i0, i2, i3, c1, c2, ix_nat, ix_nat1, ha, hb, g1, g2, hx, hy, w_one, w_high, h1, h3, h4, h5, b_mulR, hb1, hb2, LR.pv, LIM]
            · simp [f_law_long, fn_eq, startE, slotOf, q_nil, q_cons, th_nx, th_rt, th_br, th_ct, th_if, s_asgN, s_asgT, s_par, p_nil, p_cons, s_expr, s_ret, s_retN, s_ite, s_setIdx, s_app, setAt, appTo, x_lit, x_glo, x_var, x_tup, x_lst, x_bin, x_neg, x_cmp, x_chain, x_ands, x_ors, x_and1, x_or1, andK_bl, orK_bl, x_and2, x_or2, x_not, x_ite, x_idx, sliceOf, x_slc, x_call, x_callK, x_bi, x_isi, x_rng1, x_rng2, a_nil, a_val, a_ref, k_nil, k_cons, o_none, o_some, val_fz, val_fr, d_slot, d_val, ds_nil, ds_cons, t_some, bw, use, peek, put, modify, truthy, isStr, avGet, avPut, slots, vals?, cmpOp, ords, isIt, isNon, within, b_add, b_sub, b_catT, b_catL, bias, biEv, tyOf, flRv, finE, mkSeq, PV.int?, PV.seq?, PV.lst?, ints?, bindP, bindPs, rangeItems, pick, eo_ii, eo_ss, eo_bb, eo_sn, eo_in, eo_ni, eo_ns, eo_nn, pq_ii, pq_ss, pq_bb, pq_in, pq_ni, pq_sn, pq_ns, pq_nn, Fm.pv, sg, i0, i2, i3, c1, c2, ix_nat, ix_nat1, ha, hb, g1, g2, hx, hy, w_one, w_high, h1, h3, h4, h5, b_mulR, hb1, hb2, LR.pv, LIM]
          · have g2 : xs[a + 1]? = none := List.getElem?_eq_none (by omega)
            have c2 : ((xs.length : Int) ≤ (a : Int) + 1) := by omega
            have c4 : xs.length ≤ a + 1 := by omega
            rw [g2]
            simp [c4, f_law_long, fn_eq, startE, slotOf, q_nil, q_cons, th_nx, th_rt, th_br, th_ct, th_if, s_asgN, s_asgT, s_par, p_nil, p_cons, s_expr, s_ret, s_retN, s_ite, s_setIdx, s_app, setAt, appTo, x_lit, x_glo, x_var, x_tup, x_lst, x_bin, x_neg, x_cmp, x_chain, x_ands, x_ors, x_and1, x_or1, andK_bl, orK_bl, x_and2, x_or2, x_not, x_ite, x_idx, sliceOf, x_slc, x_call, x_callK, x_bi, x_isi, x_rng1, x_rng2, a_nil, a_val, a_ref, k_nil, k_cons, o_none, o_some, val_fz, val_fr, d_slot, d_val, ds_nil, ds_cons, t_some, bw, use, peek, put, modify, truthy, isStr, avGet, avPut, slots, vals?, cmpOp, ords, isIt, isNon, within, b_add, b_sub, b_catT, b_catL, bias, biEv, tyOf, flRv, finE, mkSeq, PV.int?, PV.seq?, PV.lst?, ints?, bindP, bindPs, rangeItems, pick, eo_ii, eo_ss, eo_bb, eo_sn, eo_in, eo_ni, eo_ns, eo_nn, pq_ii, pq_ss, pq_bb, pq_in, pq_ni, pq_sn, pq_ns, pq_nn, Fm.pv, sg, i0, i2, i3, c1, c2, ix_nat, ix_nat1, ha, g1, hx, w_one, w_high, h1, h3, h4, b_mulR, hb1, hb2, LR.pv, LIM]
      · by_cases h4 : f.m < x
        · simp [f_law_long, fn_eq, startE, slotOf, q_nil, q_cons, th_nx, th_rt, th_br, th_ct, th_if, s_asgN, s_asgT, s_par, p_nil, p_cons, s_expr, s_ret, s_retN, s_ite, s_setIdx, s_app, setAt, appTo, x_lit, x_glo, x_var, x_tup, x_lst, x_bin, x_neg, x_cmp, x_chain, x_ands, x_ors, x_and1, x_or1, andK_bl, orK_bl, x_and2, x_or2, x_not, x_ite, x_idx, sliceOf, x_slc, x_call, x_callK, x_bi, x_isi, x_rng1, x_rng2, a_nil, a_val, a_ref, k_nil, k_cons, o_none, o_some, val_fz, val_fr, d_slot, d_val, ds_nil, ds_cons, t_some, bw, use, peek, put, modify, truthy, isStr, avGet, avPut, slots, vals?, cmpOp, ords, isIt, isNon, within, b_add, b_sub, b_catT, b_catL, bias, biEv, tyOf, flRv, finE, mkSeq, PV.int?, PV.seq?, PV.lst?, ints?, bindP, bindPs, rangeItems, pick, eo_ii, eo_ss, eo_bb, eo_sn, eo_in, eo_ni, eo_ns, eo_nn, pq_ii, pq_ss, pq_bb, pq_in, pq_ni, pq_sn, pq_ns, pq_nn, Fm.pv, sg, i0, i2, i3, c1, ix_nat, ix_nat1, ha, g1, hx, w_one, w_high, h1, h3, h4, b_mulR, hb1, hb2, LR.pv, LIM]
        · by_cases hb : a + 1 < xs.length
          · have g2 : xs[a + 1]? = some xs[a + 1] := List.getElem?_eq_getElem hb
            have c2 : ¬ ((xs.length : Int) ≤ (a : Int) + 1) := by omega
            generalize hy : xs[a + 1] = y at g2 ⊢
            rw [g2]
            by_cases h5 : y * f.b + x ≤ f.m
            · simp [f_law_long, fn_eq, startE, slotOf, q_nil, q_cons, th_nx, th_rt, th_br, th_ct, th_if, s_asgN, s_asgT, s_par, p_nil, p_cons, s_expr, s_ret, s_retN, s_ite, s_setIdx, s_app, setAt, appTo, x_lit, x_glo, x_var, x_tup, x_lst, x_bin, x_neg, x_cmp, x_chain, x_ands, x_ors, x_and1, x_or1, andK_bl, orK_bl, x_and2, x_or2, x_not, x_ite, x_idx, sliceOf, x_slc, x_call, x_callK, x_bi, x_isi, x_rng1, x_rng2, a_nil, a_val, a_ref, k_nil, k_cons, o_none, o_some, val_fz, val_fr, d_slot, d_val, ds_nil, ds_cons, t_some, bw, use, peek, put, modify, truthy, isStr, avGet, avPut, slots, vals?, cmpOp, ords, isIt, isNon, within, b_add, b_sub, b_catT, b_catL, bias, biEv, tyOf, flRv, finE, mkSeq, PV.int?, PV.seq?, PV.lst?, ints?, bindP, bindPs, rangeItems, pick, eo_ii, eo_ss, eo_bb, eo_sn, eo_in, eo_ni, eo_ns, eo_nn, pq_ii, pq_ss, pq_bb, pq_in, pq_ni, pq_sn, pq_ns, pq_nn, Fm.pv, sg, i0, i2, i3, c1, c2, ix_nat, ix_nat1, ha, hb, g1, g2, hx, hy, w_one, w_high, h1, h3, h4, h5, b_mulR, hb1, hb2, LR.pv, LIM]
            · simp [f_law_long, fn_eq, startE, slotOf, q_nil, q_cons, th_nx, th_rt, th_br, th_ct, th_if, s_asgN, s_asgT, s_par, p_nil, p_cons, s_expr, s_ret, s_retN, s_ite, s_setIdx, s_app, setAt, appTo, x_lit, x_glo, x_var, x_tup, x_lst, x_bin, x_neg, x_cmp, x_chain, x_ands, x_ors, x_and1, x_or1, andK_bl, orK_bl, x_and2, x_or2, x_not, x_ite, x_idx, sliceOf, x_slc, x_call, x_callK, x_bi, x_isi, x_rng1, x_rng2, a_nil, a_val, a_ref, k_nil, k_cons, o_none, o_some, val_fz, val_fr, d_slot, d_val, ds_nil, ds_cons, t_some, bw, use, peek, put, modify, truthy, isStr, avGet, avPut, slots, vals?, cmpOp, ords, isIt, isNon, within, b_add, b_sub, b_catT, b_catL, bias, biEv, tyOf, flRv, finE, mkSeq, PV.int?, PV.seq?, PV.lst?, ints?, bindP, bindPs, rangeItems, pick, eo_ii, eo_ss, eo_bb, eo_sn, eo_in, eo_ni, eo_ns, eo_nn, pq_ii, pq_ss, pq_bb, pq_in, pq_ni, pq_sn, pq_ns, pq_nn, Fm.pv, sg, i0, i2, i3, c1, c2, ix_nat, ix_nat1, ha, hb, g1, g2, hx, hy, w_one, w_high, h1, h3, h4, h5, b_mulR, hb1, hb2, LR.pv, LIM]
          · have g2 : xs[a + 1]? = none := List.getElem?_eq_none (by omega)
            have c2 : ((xs.length : Int) ≤ (a : Int) + 1) := by omega
            have c4 : xs.length ≤ a + 1 := by omega
            rw [g2]
            simp [c4, f_law_long, fn_eq, startE, slotOf, q_nil, q_cons, th_nx, th_rt, th_br, th_ct, th_if, s_asgN, s_asgT, s_par, p_nil, p_cons, s_expr, s_ret, s_retN, s_ite, s_setIdx, s_app, setAt, appTo, x_lit, x_glo, x_var, x_tup, x_lst, x_bin, x_neg, x_cmp, x_chain, x_ands, x_ors, x_and1, x_or1, andK_bl, orK_bl, x_and2, x_or2, x_not, x_ite, x_idx, sliceOf, x_slc, x_call, x_callK, x_bi, x_isi, x_rng1, x_rng2, a_nil, a_val, a_ref, k_nil, k_cons, o_none, o_some, val_fz, val_fr, d_slot, d_val, ds_nil, ds_cons, t_some, bw, use, peek, put, modify, truthy, isStr, avGet, avPut, slots, vals?, cmpOp, ords, isIt, isNon, within, b_add, b_sub, b_catT, b_catL, bias, biEv, tyOf, flRv, finE, mkSeq, PV.int?, PV.seq?, PV.lst?, ints?, bindP, bindPs, rangeItems, pick, eo_ii, eo_ss, eo_bb, eo_sn, eo_in, eo_ni, eo_ns, eo_nn, pq_ii, pq_ss, pq_bb, pq_in, pq_ni, pq_sn, pq_ns, pq_nn, Fm.pv, sg, i0, i2, i3, c1, c2, ix_nat, ix_nat1, ha, g1, hx, w_one, w_high, h1, h3, h4, b_mulR, hb1, hb2, LR.pv, LIM]
  · have g1 : xs[a]? = none := List.getElem?_eq_none (by omega)
    have c1 : ((xs.length : Int) ≤ (a : Int)) := by omega
    have c3 : xs.length ≤ a := by omega
    simp [c3, f_law_long, fn_eq, startE, slotOf, q_nil, q_cons, th_nx, th_rt, th_br, th_ct, th_if, s_asgN, s_asgT, s_par, p_nil, p_cons, s_expr, s_ret, s_retN, s_ite, s_setIdx, s_app, setAt, appTo, x_lit, x_glo, x_var, x_tup, x_lst, x_bin, x_neg, x_cmp, x_chain, x_ands, x_ors, x_and1, x_or1, andK_bl, orK_bl, x_and2, x_or2, x_not, x_ite, x_idx, sliceOf, x_slc, x_call, x_callK, x_bi, x_isi, x_rng1, x_rng2, a_nil, a_val, a_ref, k_nil, k_cons, o_none, o_some, val_fz, val_fr, d_slot, d_val, ds_nil, ds_cons, t_some, bw, use, peek, put, modify, truthy, isStr, avGet, avPut, slots, vals?, cmpOp, ords, isIt, isNon, within, b_add, b_sub, b_catT, b_catL, bias, biEv, tyOf, flRv, finE, mkSeq, PV.int?, PV.seq?, PV.lst?, ints?, bindP, bindPs, rangeItems, pick, eo_ii, eo_ss, eo_bb, eo_sn, eo_in, eo_ni, eo_ns, eo_nn, pq_ii, pq_ss, pq_bb, pq_in, pq_ni, pq_sn, pq_ns, pq_nn, Fm.pv, sg, i0, i2, i3, c1, g1, LR.pv, LIM]
end EV.Law
set_option linter.all false
set_option maxRecDepth 100000
namespace EV.Law
open PySem EV
/-! ### the head -/
def stK (f : Fm) (k : Nat) : Sd := if k < f.hd.length then .head k else .tag
theorem first_stK (f : Fm) : firstS f = stK f 0 := by
  unfold firstS stK
  by_cases h : f.hd = []
  · rw [if_pos h, h]; rfl
  · rw [if_neg h, if_pos (List.length_pos_iff.mpr h)]
theorem step_headE (f : Fm) (p : Nat) (s : Int) : stepS f (.head p) s = match f.hd[p]? with
    | some none => some (if p + 1 < f.hd.length then .head (p + 1) else .tag)
    | some (some i) => if i = s then some (if p + 1 < f.hd.length then .head (p + 1) else .tag) else none
    | none => none := rfl
theorem step_head (f : Fm) (p : Nat) (hp : p < f.hd.length) (x : Int) : stepS f (.head p) x = none ∨ stepS f (.head p) x = some (stK f (p + 1)) := by
  have g1 : f.hd[p]? = some f.hd[p] := List.getElem?_eq_getElem hp
  rw [step_headE, g1]
  unfold stK
  cases f.hd[p] with
  | none => exact .inr rfl
  | some i =>
    by_cases hi : i = x
    · right; simp [hi]
    · left; simp [hi]
/-! ### the chunks -/
theorem step_tag (f : Fm) (s : Int) : stepS f .tag s = match useAt f s with
    | none => none
    | some .fin => some .room
    | some .stop => some .over
    | some u => some (.len u) := rfl
theorem put_sl (i : Nat) (v : PV) (o : Option PV) (ρ : Env) (h : ρ[i]? = some (sl o)) : put i (.fz v) ρ = some (ρ.set i (.fz v)) := by
  unfold put
  rw [h]
  cases o <;> rfl
theorem run_cons (f : Fm) (st : Sd) (x : Int) (xs : List Int) : runS f (some st) (x :: xs) = runS f (stepS f st x) xs := rfl
theorem inB_0 {b x : Int} (h : inB b x = true) : 0 ≤ x ∧ x < b := by
  unfold inB at h
  simpa using h
theorem run_long (f : Fm) (hf : f.Ok) (xs : List Int) (hx : ∀ x ∈ xs, inB f.b x = true) (u : U) (a : Nat) (ha : a ≤ xs.length) :
    (∃ n p : Nat, longS f xs a = .ok (n : Int) p ∧ a < p ∧ p ≤ xs.length ∧ runS f (some (.len u)) (xs.drop a) = runS f (some (bodyS u (n : Int))) (xs.drop p)) ∨
    (∃ p, longS f xs a = .bad p "length" ∧ runS f (some (.len u)) (xs.drop a) = none) ∨
    (longS f xs a = .bad xs.length "short" ∧ ((a = xs.length ∧ runS f (some (.len u)) (xs.drop a) = some (.len u)) ∨ (∃ h : a < xs.length, a + 1 = xs.length ∧ runS f (some (.len u)) (xs.drop a) = some (.sec u xs[a])))) := by
  by_cases h : a < xs.length
  · have g1 : xs[a]? = some xs[a] := List.getElem?_eq_getElem h
    have hd : xs.drop a = xs[a] :: xs.drop (a + 1) := List.drop_eq_getElem_cons h
    have p1 := inB_0 (hx xs[a] (List.getElem_mem h))
    unfold longS
    rw [g1, hd, run_cons, step_len]
    by_cases h1 : f.w = .one
    · rw [if_pos h1]
      by_cases h2 : xs[a] ≤ f.m
      · left
        obtain ⟨n, hn⟩ := Int.eq_ofNat_of_zero_le p1.1
        refine ⟨n, a + 1, ?_, by omega, h, ?_⟩
        · simp only [if_pos h1, if_pos h2]; rw [hn]
        · rw [if_pos h2, hn]
      · right; left
        refine ⟨a, ?_, ?_⟩
        · simp only [if_pos h1, if_neg h2]
        · rw [if_neg h2, run_none]
    · rw [if_neg h1]
      by_cases h2 : (if f.w = .high then xs[a] * f.b else xs[a]) ≤ f.m
      · have h2' : ¬ f.m < (if f.w = .high then xs[a] * f.b else xs[a]) := by omega
        rw [if_pos h2]
        by_cases h3 : a + 1 < xs.length
        · have g2 : xs[a + 1]? = some xs[a + 1] := List.getElem?_eq_getElem h3
          have hd2 : xs.drop (a + 1) = xs[a + 1] :: xs.drop (a + 1 + 1) := List.drop_eq_getElem_cons h3
          have p2 := inB_0 (hx xs[a + 1] (List.getElem_mem h3))
          rw [hd2, run_cons, step_sec]
          have hb0 : 0 ≤ f.b := by have := hf.b1; omega
          have hw : 0 ≤ (if f.w = .high then xs[a] * f.b + xs[a + 1] else xs[a + 1] * f.b + xs[a]) := by
            split
            · have := Int.mul_nonneg p1.1 hb0; omega
            · have := Int.mul_nonneg p2.1 hb0; omega
          by_cases h4 : (if f.w = .high then xs[a] * f.b + xs[a + 1] else xs[a + 1] * f.b + xs[a]) ≤ f.m
          · left
            obtain ⟨n, hn⟩ := Int.eq_ofNat_of_zero_le hw
            refine ⟨n, a + 2, ?_, by omega, h3, ?_⟩
            · simp only [if_neg h1, if_neg h2', g2, if_pos h4]; rw [hn]
            · rw [if_pos h4, hn]
          · right; left
            refine ⟨a + 1, ?_, ?_⟩
            · simp only [if_neg h1, if_neg h2', g2, if_neg h4]
            · rw [if_neg h4, run_none]
        · have g2 : xs[a + 1]? = none := List.getElem?_eq_none (by omega)
          have hd2 : xs.drop (a + 1) = [] := List.drop_eq_nil_iff.mpr (by omega)
          right; right
          refine ⟨?_, .inr ⟨h, by omega, ?_⟩⟩
          · simp only [if_neg h1, if_neg h2', g2]
          · rw [hd2]; rfl
      · have h2' : f.m < (if f.w = .high then xs[a] * f.b else xs[a]) := by omega
        right; left
        refine ⟨a, ?_, ?_⟩
        · simp only [if_neg h1, if_pos h2']
        · rw [if_neg h2, run_none]
  · have e : a = xs.length := by omega
    have g1 : xs[a]? = none := List.getElem?_eq_none (by omega)
    have hd : xs.drop a = [] := List.drop_eq_nil_iff.mpr (by omega)
    right; right
    refine ⟨?_, .inl ⟨e, ?_⟩⟩
    · unfold longS; rw [g1]
    · rw [hd]; rfl
/-- the total that the law takes -/
def totS (f : Fm) (u : U) (ys : List Int) : Int := if u = .check then ys.sum % f.b else 0
theorem tot_0 (f : Fm) (u : U) (ys : List Int) : tot f u 0 ys = totS f u ys := by
  unfold tot totS
  rw [Int.zero_add]
theorem run_chunk_short (f : Fm) (u : U) (ys : List Int) (n : Nat) (h : ys.length < n) : runS f (some (bodyS u (n : Int))) ys = some (.body u ((n : Int) - ys.length) (totS f u ys)) := by
  have h0 : (0 : Int) < (n : Int) := by omega
  unfold bodyS
  rw [if_pos h0, run_body_short f u ys (n : Int) 0 (by omega) (fun _ => Int.zero_emod _), tot_0]
  congr 2
  split
  · rename_i e
    subst e
    unfold totS
    split <;> simp
  · rfl
theorem run_chunk_full (f : Fm) (u : U) (ys : List Int) (n : Nat) (h : n ≤ ys.length) : runS f (some (bodyS u (n : Int))) ys = runS f (some (if u = .check then .sum (totS f u (ys.take n)) else .tag)) (ys.drop n) := by
  by_cases h0 : n = 0
  · subst h0
    unfold bodyS totS
    simp
  · have h1 : (0 : Int) < (n : Int) := by omega
    have e : ys = ys.take n ++ ys.drop n := (List.take_append_drop n ys).symm
    conv => lhs; rw [e, run_app]
    unfold bodyS
    rw [if_pos h1, run_body_full f u (ys.take n) (n : Int) 0 (by rw [List.length_take]; omega) h1 (fun _ => Int.zero_emod _), tot_0]
theorem sIx_nat (n d p : Nat) : sIx n d (some (p : Int)) = min p n := by
  have e : sIx n d (some (p : Int)) = if (p : Int) < 0 then ((p : Int) + n).toNat else min (p : Int).toNat n := rfl
  rw [e, if_neg (by omega)]
  rfl
theorem cut_nat {α : Type} (xs : List α) (p n : Nat) (hp : p ≤ xs.length) : cut xs (some (p : Int)) (some ((p : Int) + (n : Int))) = (xs.drop p).take n := by
  have ec : ((p : Int) + (n : Int)) = ((p + n : Nat) : Int) := by omega
  unfold cut
  rw [ec, sIx_nat, sIx_nat]
  have e3 : min p xs.length = p := by omega
  rw [e3]
  by_cases h : p + n ≤ xs.length
  · have : min (p + n) xs.length - p = n := by omega
    rw [this]
  · have : min (p + n) xs.length - p = (xs.drop p).length := by rw [List.length_drop]; omega
    rw [this, List.take_length, List.take_of_length_le (by rw [List.length_drop]; omega)]
theorem ints_map : ∀ xs : List Int, ints? (xs.map PV.int) = some xs
  | [] => rfl
  | x :: xs => by
    show (ints? (xs.map PV.int)).map (x :: ·) = _
    rw [ints_map xs]; rfl
def isBody (u : U) : Prop := u = .keep ∨ u = .check ∨ u = .skip
theorem luse_body {f : Fm} {x : Int} {u : U} (h : useAt f x = some u) : luse f x = u.str := by unfold luse; rw [h]
theorem step_tag_body {f : Fm} {x : Int} {u : U} (h : useAt f x = some u) (hb : isBody u) : stepS f .tag x = some (.len u) := by
  rw [step_tag, h]
  rcases hb with rfl | rfl | rfl <;> rfl
def lrV : LR → PV × PV
  | .ok w a => (.int w, .int (a : Int))
  | .bad p w => (.non, .tup [.int (p : Int), .str w])
theorem range_nat (n : Nat) (h : n ≤ 1000000) : rangeItems [.int (n : Int)] = some ((List.range n).map fun i => PV.int (i : Nat)) := by
  unfold rangeItems
  have c : (-(2 ^ 62) ≤ (n : Int) ∧ (n : Int) < 2 ^ 62) := by omega
  simp only [if_pos c]
  rw [Int.toNat_natCast]
theorem flat_u (u : U) : PV.flat (.str u.str) = true := by cases u <;> decide +kernel
theorem flat_row (r : Int × U) : PV.flat (row r) = true := by
  show (true && (PV.flat (.str r.2.str) && true)) = true
  rw [flat_u]
  rfl
end EV.Law
set_option linter.all false
set_option maxRecDepth 100000
namespace EV.Law
open PySem EV
/-! ### _law_equal of a thing and itself -/
/-- what the law compares: d levels of lists, tuples over leaves without bools -/
def eqv : Nat → PV → Prop
  | 0, v => v = .non ∨ (∃ i, v = .int i) ∨ ∃ z, v = .str z
  | d + 1, v => eqv d v ∨ (∃ xs, (v = .tup xs ∨ v = .lst xs) ∧ xs.length ≤ 1000 ∧ ∀ x ∈ xs, eqv d x)
theorem eqv_mono {d : Nat} {v : PV} (h : eqv d v) : eqv (d + 1) v := .inl h
set_option maxHeartbeats 4000000 in
theorem equal_leaf (k : Nat) (v : PV) (h : eqv 0 v) : evCl G F (k + 1) c_law_equal [(false, v), (false, v)] = some (.fz (.bl true), []) := by
  refine (u_law_equal k _).trans ?_
  rcases h with rfl | ⟨i, rfl⟩ | ⟨z, rfl⟩ <;> simp [f_law_equal, fn_eq, startE, slotOf, q_nil, q_cons, th_nx, th_rt, th_br, th_ct, th_if, s_asgN, s_asgT, s_par, p_nil, p_cons, s_expr, s_ret, s_retN, s_ite, s_setIdx, s_app, setAt, appTo, x_lit, x_glo, x_var, x_tup, x_lst, x_bin, x_neg, x_cmp, x_chain, x_ands, x_ors, x_and1, x_or1, andK_bl, orK_bl, x_and2, x_or2, x_not, x_ite, x_idx, sliceOf, x_slc, x_call, x_callK, x_bi, x_isi, x_rng1, x_rng2, a_nil, a_val, a_ref, k_nil, k_cons, o_none, o_some, val_fz, val_fr, d_slot, d_val, ds_nil, ds_cons, t_some, bw, use, peek, put, modify, truthy, isStr, avGet, avPut, slots, vals?, cmpOp, ords, isIt, isNon, within, b_add, b_sub, b_catT, b_catL, bias, biEv, tyOf, flRv, finE, mkSeq, PV.int?, PV.seq?, PV.lst?, ints?, bindP, bindPs, rangeItems, pick, eo_ii, eo_ss, eo_bb, eo_sn, eo_in, eo_ni, eo_ns, eo_nn, pq_ii, pq_ss, pq_bb, pq_in, pq_ni, pq_sn, pq_ns, pq_nn]
theorem filter_none {α : Type} (xs : List α) : xs.filter (fun _ => false) = [] := by
  induction xs with
  | nil => rfl
  | cons x xs ih => simp
set_option maxHeartbeats 4000000 in
theorem equal_comp_tup (k : Nat) (xs : List PV) (hl : xs.length ≤ 1000) (h : ∀ x ∈ xs, evCl G F k c_law_equal [(false, x), (false, x)] = some (.fz (.bl true), [])) :
    evE G (evCl G F k) (.comp (.var 2) [2] (.name 2) (.range [(.val, (.bi .len [(.ref, (.var 1))]))]) [(.not (.call c_law_equal [(.val, (.idx (.var 0) (.var 2))), (.val, (.idx (.var 1) (.var 2)))]))]) [.fz (PV.tup xs), .fz (PV.tup xs), .un] =
      some (.fr (.lst []), [.fz (PV.tup xs), .fz (PV.tup xs), .un]) := by
  have hr := range_nat xs.length (by omega)
  refine x_comp (ρ1 := [.fz (PV.tup xs), .fz (PV.tup xs), .un]) (items := (List.range xs.length).map fun i => PV.int (i : Nat)) (ρ2 := [.fz (PV.tup xs), .fz (PV.tup xs), .un]) ?_ rfl ?_ rfl
  · have ha : evAs G (evCl G F k) [(.val, (.bi .len [(.ref, (.var 1))]))] [.fz (PV.tup xs), .fz (PV.tup xs), .un] = some ([.val (.int (xs.length : Int))], [.fz (PV.tup xs), .fz (PV.tup xs), .un]) := rfl
    have hv : vals? [Bw.val (.int (xs.length : Int))] = some [.int (xs.length : Int)] := rfl
    rw [i_range, ha, Option.bind_some, hv, Option.bind_some, hr]
    rfl
  · have hm := comp_filter (turn := cT G (evCl G F k) (.var 2) [2] (.name 2) [(.not (.call c_law_equal [(.val, (.idx (.var 0) (.var 2))), (.val, (.idx (.var 1) (.var 2)))]))]) (f := fun (i : Nat) => PV.int (i : Nat)) (enc := fun (i : Nat) => PV.int (i : Nat)) (p := fun _ => false) (ρ := [.fz (PV.tup xs), .fz (PV.tup xs), .un]) (List.range xs.length) [] (fun i hi => ?_) (by rw [List.length_range]; exact Nat.le_trans (by simpa using hl) (by decide))
    · rw [filter_none] at hm
      exact hm
    · have hi : i < xs.length := by simpa using hi
      have g1 : xs[i]? = some xs[i] := List.getElem?_eq_getElem hi
      have he := h xs[i] (List.getElem_mem hi)
      generalize hx : xs[i] = x at g1 he
      simp [cT, evTs, wipe, fn_eq, startE, slotOf, q_nil, q_cons, th_nx, th_rt, th_br, th_ct, th_if, s_asgN, s_asgT, s_par, p_nil, p_cons, s_expr, s_ret, s_retN, s_ite, s_setIdx, s_app, setAt, appTo, x_lit, x_glo, x_var, x_tup, x_lst, x_bin, x_neg, x_cmp, x_chain, x_ands, x_ors, x_and1, x_or1, andK_bl, orK_bl, x_and2, x_or2, x_not, x_ite, x_idx, sliceOf, x_slc, x_call, x_callK, x_bi, x_isi, x_rng1, x_rng2, a_nil, a_val, a_ref, k_nil, k_cons, o_none, o_some, val_fz, val_fr, d_slot, d_val, ds_nil, ds_cons, t_some, bw, use, peek, put, modify, truthy, isStr, avGet, avPut, slots, vals?, cmpOp, ords, isIt, isNon, within, b_add, b_sub, b_catT, b_catL, bias, biEv, tyOf, flRv, finE, mkSeq, PV.int?, PV.seq?, PV.lst?, ints?, bindP, bindPs, rangeItems, pick, eo_ii, eo_ss, eo_bb, eo_sn, eo_in, eo_ni, eo_ns, eo_nn, pq_ii, pq_ss, pq_bb, pq_in, pq_ni, pq_sn, pq_ns, pq_nn, ix_nat, hi, hx, g1, he]
set_option maxHeartbeats 4000000 in
theorem equal_comp_lst (k : Nat) (xs : List PV) (hl : xs.length ≤ 1000) (h : ∀ x ∈ xs, evCl G F k c_law_equal [(false, x), (false, x)] = some (.fz (.bl true), [])) :
    evE G (evCl G F k) (.comp (.var 2) [2] (.name 2) (.range [(.val, (.bi .len [(.ref, (.var 1))]))]) [(.not (.call c_law_equal [(.val, (.idx (.var 0) (.var 2))), (.val, (.idx (.var 1) (.var 2)))]))]) [.fz (PV.lst xs), .fz (PV.lst xs), .un] =
      some (.fr (.lst []), [.fz (PV.lst xs), .fz (PV.lst xs), .un]) := by
  have hr := range_nat xs.length (by omega)
  refine x_comp (ρ1 := [.fz (PV.lst xs), .fz (PV.lst xs), .un]) (items := (List.range xs.length).map fun i => PV.int (i : Nat)) (ρ2 := [.fz (PV.lst xs), .fz (PV.lst xs), .un]) ?_ rfl ?_ rfl
  · have ha : evAs G (evCl G F k) [(.val, (.bi .len [(.ref, (.var 1))]))] [.fz (PV.lst xs), .fz (PV.lst xs), .un] = some ([.val (.int (xs.length : Int))], [.fz (PV.lst xs), .fz (PV.lst xs), .un]) := rfl
    have hv : vals? [Bw.val (.int (xs.length : Int))] = some [.int (xs.length : Int)] := rfl
    rw [i_range, ha, Option.bind_some, hv, Option.bind_some, hr]
    rfl
  · have hm := comp_filter (turn := cT G (evCl G F k) (.var 2) [2] (.name 2) [(.not (.call c_law_equal [(.val, (.idx (.var 0) (.var 2))), (.val, (.idx (.var 1) (.var 2)))]))]) (f := fun (i : Nat) => PV.int (i : Nat)) (enc := fun (i : Nat) => PV.int (i : Nat)) (p := fun _ => false) (ρ := [.fz (PV.lst xs), .fz (PV.lst xs), .un]) (List.range xs.length) [] (fun i hi => ?_) (by rw [List.length_range]; exact Nat.le_trans (by simpa using hl) (by decide))
    · rw [filter_none] at hm
      exact hm
    · have hi : i < xs.length := by simpa using hi
      have g1 : xs[i]? = some xs[i] := List.getElem?_eq_getElem hi
      have he := h xs[i] (List.getElem_mem hi)
      generalize hx : xs[i] = x at g1 he
      simp [cT, evTs, wipe, fn_eq, startE, slotOf, q_nil, q_cons, th_nx, th_rt, th_br, th_ct, th_if, s_asgN, s_asgT, s_par, p_nil, p_cons, s_expr, s_ret, s_retN, s_ite, s_setIdx, s_app, setAt, appTo, x_lit, x_glo, x_var, x_tup, x_lst, x_bin, x_neg, x_cmp, x_chain, x_ands, x_ors, x_and1, x_or1, andK_bl, orK_bl, x_and2, x_or2, x_not, x_ite, x_idx, sliceOf, x_slc, x_call, x_callK, x_bi, x_isi, x_rng1, x_rng2, a_nil, a_val, a_ref, k_nil, k_cons, o_none, o_some, val_fz, val_fr, d_slot, d_val, ds_nil, ds_cons, t_some, bw, use, peek, put, modify, truthy, isStr, avGet, avPut, slots, vals?, cmpOp, ords, isIt, isNon, within, b_add, b_sub, b_catT, b_catL, bias, biEv, tyOf, flRv, finE, mkSeq, PV.int?, PV.seq?, PV.lst?, ints?, bindP, bindPs, rangeItems, pick, eo_ii, eo_ss, eo_bb, eo_sn, eo_in, eo_ni, eo_ns, eo_nn, pq_ii, pq_ss, pq_bb, pq_in, pq_ni, pq_sn, pq_ns, pq_nn, ix_nat, hi, hx, g1, he]
theorem eq_nil : eqOk (.lst []) (.lst []) = true := by decide
theorem pq_nil : peq (.lst []) (.lst []) = true := rfl
theorem x_nil (C : Cl) (ρ : Env) : evE G C (.lst []) ρ = some (.fr (.lst []), ρ) := by
  rw [x_lst, a_nil, Option.bind_some]
  have hv : vals? [] = some [] := rfl
  rw [hv, Option.bind_some]
  exact if_pos (Nat.zero_le _)
def LC : Ex := .comp (.var 2) [2] (.name 2) (.range [(.val, (.bi .len [(.ref, (.var 1))]))]) [(.not (.call c_law_equal [(.val, (.idx (.var 0) (.var 2))), (.val, (.idx (.var 1) (.var 2)))]))]
def LE1 : List Sm := [.ite (.cmp .ne (.bi .len [(.ref, (.var 0))]) (.bi .len [(.ref, (.var 1))]))
       [.ret (.lit (.bl false))]
       [],
     .ret (.cmp .eq LC (.lst []))]
theorem le_eval (C : Cl) (v : PV) (n : Int) (hn : bias .len [v] = some (.fz (.int n))) (hc : evE G C LC [.fz v, .fz v, .un] = some (.fr (.lst []), [.fz v, .fz v, .un])) : evSs G C LE1 [.fz v, .fz v, .un] = some (.rt (.fz (.bl true)), [.fz v, .fz v, .un]) := by
  have hb0 : evE G C (.bi .len [(.ref, (.var 0))]) [.fz v, .fz v, .un] = some (.fz (.int n), [.fz v, .fz v, .un]) := by
    show (bias .len [v]).map _ = _
    rw [hn]; rfl
  have hb1 : evE G C (.bi .len [(.ref, (.var 1))]) [.fz v, .fz v, .un] = some (.fz (.int n), [.fz v, .fz v, .un]) := by
    show (bias .len [v]).map _ = _
    rw [hn]; rfl
  have h1 : evS G C (.ite (.cmp .ne (.bi .len [(.ref, (.var 0))]) (.bi .len [(.ref, (.var 1))]))
       [.ret (.lit (.bl false))]
       []) [.fz v, .fz v, .un] = some (.nx, [.fz v, .fz v, .un]) := by
    rw [s_ite, x_cmp]
    simp [hb0, hb1, bw, d_val, val_fz, cmpOp, eo_ii, pq_ii, t_some, isStr, truthy, q_nil]
  have h2 : evE G C (.cmp .eq LC (.lst [])) [.fz v, .fz v, .un] = some (.fz (.bl true), [.fz v, .fz v, .un]) := by
    have hb : bw LC (evE G C LC [.fz v, .fz v, .un]) [.fz v, .fz v, .un] = some (.val (.lst []), [.fz v, .fz v, .un]) := by rw [hc]; rfl
    rw [x_cmp, hb, Option.bind_some, x_nil]
    rfl
  rw [LE1, q_cons, h1, th_nx, q_cons, s_ret, h2]
  rfl
theorem equal_tup (k : Nat) (xs : List PV) (hl : xs.length ≤ 1000) (h : ∀ x ∈ xs, evCl G F k c_law_equal [(false, x), (false, x)] = some (.fz (.bl true), [])) :
    evCl G F (k + 1) c_law_equal [(false, .tup xs), (false, .tup xs)] = some (.fz (.bl true), []) := by
  refine (u_law_equal k _).trans ?_
  have hc := le_eval (evCl G F k) (.tup xs) xs.length rfl (equal_comp_tup k xs hl h)
  have hb : evSs G (evCl G F k) f_law_equal.body [.fz (.tup xs), .fz (.tup xs), .un] = thenS (evSs G (evCl G F k) LE1 [.fz (.tup xs), .fz (.tup xs), .un]) fun ρ => evSs G (evCl G F k) (f_law_equal.body.drop 4) ρ := rfl
  have hf : f_law_equal.m = 3 := rfl
  rw [fn_eq, if_pos (by rw [hf]; show 2 ≤ 3; omega)]
  show (evSs G (evCl G F k) f_law_equal.body [.fz (.tup xs), .fz (.tup xs), .un]).bind _ = _
  rw [hb, hc]
  rfl
theorem equal_lst (k : Nat) (xs : List PV) (hl : xs.length ≤ 1000) (h : ∀ x ∈ xs, evCl G F k c_law_equal [(false, x), (false, x)] = some (.fz (.bl true), [])) :
    evCl G F (k + 1) c_law_equal [(false, .lst xs), (false, .lst xs)] = some (.fz (.bl true), []) := by
  refine (u_law_equal k _).trans ?_
  have hc := le_eval (evCl G F k) (.lst xs) xs.length rfl (equal_comp_lst k xs hl h)
  have hb : evSs G (evCl G F k) f_law_equal.body [.fz (.lst xs), .fz (.lst xs), .un] = thenS (evSs G (evCl G F k) LE1 [.fz (.lst xs), .fz (.lst xs), .un]) fun ρ => evSs G (evCl G F k) (f_law_equal.body.drop 4) ρ := rfl
  have hf : f_law_equal.m = 3 := rfl
  rw [fn_eq, if_pos (by rw [hf]; show 2 ≤ 3; omega)]
  show (evSs G (evCl G F k) f_law_equal.body [.fz (.lst xs), .fz (.lst xs), .un]).bind _ = _
  rw [hb, hc]
  rfl
theorem equal_self : ∀ (d k : Nat) (v : PV), eqv d v → evCl G F (k + d + 1) c_law_equal [(false, v), (false, v)] = some (.fz (.bl true), [])
  | 0, k, v, h => equal_leaf k v h
  | d + 1, k, v, h => by
    rcases h with h | ⟨xs, hv, hl, h⟩
    · have := equal_self d (k + 1) v h
      have e : k + 1 + d + 1 = k + (d + 1) + 1 := by omega
      rw [e] at this
      exact this
    · have hk : ∀ x ∈ xs, evCl G F (k + (d + 1)) c_law_equal [(false, x), (false, x)] = some (.fz (.bl true), []) := fun x hx => equal_self d k x (h x hx)
      rcases hv with rfl | rfl
      · exact equal_tup (k + (d + 1)) xs hl hk
      · exact equal_lst (k + (d + 1)) xs hl hk
end EV.Law
set_option linter.all false
set_option maxRecDepth 100000
namespace EV.Law
open PySem EV
/-! ### the bag -/
def bagV (a m n : Int) : PV := .lst [.int a, .int m, .int n]
/-- a bag that q more draws may be taken from -/
def BG (q : Nat) (v : PV) : Prop := ∃ a m n : Int, v = bagV a m n ∧ 0 ≤ m ∧ m < 2 ^ 200 ∧ 0 ≤ n ∧ n + q ≤ 1000000000
theorem pow_small {i : Int} (h0 : 0 ≤ i) (h1 : i < 2 ^ 201) : i.natAbs < 2 ^ 1024 := by
  have h : i.natAbs < 2 ^ 201 := by omega
  exact Nat.lt_of_lt_of_le h (Nat.pow_le_pow_right (by decide) (by decide))
theorem p_pow (i : Int) (n : Nat) (hn : n ≤ 1000) (h0 : 0 ≤ i) (h1 : i < 2 ^ 201) : binOp .pow (.int i) (.int (n : Int)) = some (.fz (.int (i ^ n))) := b_pow i n (by omega) (pow_small h0 h1)
theorem p_2 (i : Int) (h0 : 0 ≤ i) (h1 : i < 2 ^ 201) : binOp .pow (.int i) (.int 2) = some (.fz (.int (i ^ 2))) := p_pow i 2 (by decide) h0 h1
theorem p_3 (i : Int) (h0 : 0 ≤ i) (h1 : i < 2 ^ 201) : binOp .pow (.int i) (.int 3) = some (.fz (.int (i ^ 3))) := p_pow i 3 (by decide) h0 h1
theorem p_10 (n : Nat) (hn : n ≤ 1000) : binOp .pow (.int 10) (.int (n : Int)) = some (.fz (.int (10 ^ n))) := p_pow 10 n hn (by decide) (by decide)
theorem ten_pos (n : Nat) : (0 : Int) < 10 ^ n := Int.pow_pos (by decide)
set_option maxHeartbeats 4000000 in
theorem grab_big (k : Nat) (a m n b : Int) (ha : 0 < a) (hb : 0 < b) (hb2 : b < 18446744073709551616) : evCl G F (k + 1) c_law_grab [(true, bagV a m n), (false, .int b)] = some (.fz (.int (a % b)), [bagV (a / b) m n]) := by
  refine (u_law_grab k _).trans ?_
  have i0 : ixN 3 0 = some 0 := rfl
  simp [f_law_grab, fn_eq, startE, slotOf, q_nil, q_cons, th_nx, th_rt, th_br, th_ct, th_if, s_asgN, s_asgT, s_par, p_nil, p_cons, s_expr, s_ret, s_retN, s_ite, s_setIdx, s_app, setAt, appTo, x_lit, x_glo, x_var, x_tup, x_lst, x_bin, x_neg, x_cmp, x_chain, x_ands, x_ors, x_and1, x_or1, andK_bl, orK_bl, x_and2, x_or2, x_not, x_ite, x_idx, sliceOf, x_slc, x_call, x_callK, x_bi, x_isi, x_rng1, x_rng2, a_nil, a_val, a_ref, k_nil, k_cons, o_none, o_some, val_fz, val_fr, d_slot, d_val, ds_nil, ds_cons, t_some, bw, use, peek, put, modify, truthy, isStr, avGet, avPut, slots, vals?, cmpOp, ords, isIt, isNon, within, b_add, b_sub, b_catT, b_catL, bias, biEv, tyOf, flRv, finE, mkSeq, PV.int?, PV.seq?, PV.lst?, ints?, bindP, bindPs, rangeItems, pick, eo_ii, eo_ss, eo_bb, eo_sn, eo_in, eo_ni, eo_ns, eo_nn, pq_ii, pq_ss, pq_bb, pq_in, pq_ni, pq_sn, pq_ns, pq_nn, bagV, i0, ha, b_mod, b_fdiv, hb, hb2]
def mix1 (m n : Int) : Int := (m + 90019 * (n + 1)) ^ 2 % (10 ^ 38 + 271)
def mix2 (m n : Int) : Int := (mix1 m n + 1900037 * (n + 1)) ^ 3 % (10 ^ 39 + 331)
theorem mix1_b (m n : Int) : 0 ≤ mix1 m n ∧ mix1 m n < 10 ^ 38 + 271 := ⟨Int.emod_nonneg _ (by decide), Int.emod_lt_of_pos _ (by decide)⟩
theorem mix2_b (m n : Int) : 0 ≤ mix2 m n := Int.emod_nonneg _ (by decide)
theorem bin_ev {C : Cl} {op : BOp} {a b : Ex} {ρ : Env} {ra rb r : RV} (ha : evE G C a ρ = some (ra, ρ)) (na : bw a (some (ra, ρ)) ρ = some (.val ra.val, ρ)) (hb : evE G C b ρ = some (rb, ρ)) (nb : bw b (some (rb, ρ)) ρ = some (.val rb.val, ρ)) (ho : binOp op ra.val rb.val = some r) :
    evE G C (.bin op a b) ρ = some (r, ρ) := by
  rw [x_bin, ha, na, Option.bind_some]
  simp only []
  rw [hb, nb, Option.bind_some, d_val, Option.bind_some, d_val, Option.bind_some, ho]
  rfl
theorem bin_evV {C : Cl} {op : BOp} {a b : Ex} {ρ : Env} {i : Nat} {x : PV} {rb r : RV} (ha : bw a (evE G C a ρ) ρ = some (.slot i, ρ)) (hp : peek i ρ = some x) (hb : evE G C b ρ = some (rb, ρ)) (nb : bw b (some (rb, ρ)) ρ = some (.val rb.val, ρ)) (ho : binOp op x rb.val = some r) :
    evE G C (.bin op a b) ρ = some (r, ρ) := by
  rw [x_bin, ha, Option.bind_some]
  simp only []
  rw [hb, nb, Option.bind_some, d_slot, hp, Option.bind_some, d_val, Option.bind_some, ho]
  rfl
theorem int_ev {C : Cl} {a : Ex} {ρ : Env} {i : Int} (ha : evE G C a ρ = some (.fz (.int i), ρ)) (na : bw a (some (.fz (.int i), ρ)) ρ = some (.val (.int i), ρ)) : evE G C (.bi .int [(.ref, a)]) ρ = some (.fz (.int i), ρ) := by
  rw [x_bi, a_ref, ha, na]
  rfl
theorem bag_ix {C : Cl} {a m n b : Int} {s2 s3 : Slot} (j : Nat) (hj : j < 3) : evE G C (.idx (.var 0) (.lit (.int (j : Int)))) [.pn (bagV a m n), .fz (.int b), s2, s3] = some (.fz (([a, m, n].map PV.int)[j]'(by simpa using hj)), [.pn (bagV a m n), .fz (.int b), s2, s3]) := by
  match j, hj with
  | 0, _ => rfl
  | 1, _ => rfl
  | 2, _ => rfl
theorem grab_small (k : Nat) (a m n b : Int) (ha : ¬ 0 < a) (hb : 0 < b) (hm0 : 0 ≤ m) (hm : m < 2 ^ 200) (hn0 : 0 ≤ n) (hn : n < 1000000000) : evCl G F (k + 1) c_law_grab [(true, bagV a m n), (false, .int b)] = some (.fz (.int (mix2 m n / 8192 % b)), [bagV a m (n + 1)]) := by
  refine (u_law_grab k _).trans ?_
  have q1 := p_2 (m + 90019 * (n + 1)) (by omega) (by omega)
  have q2 := p_3 (mix1 m n + 1900037 * (n + 1)) (by have := (mix1_b m n).1; omega) (by have := (mix1_b m n).2; omega)
  have t38 : binOp .pow (.int 10) (.int 38) = some (.fz (.int (10 ^ 38))) := p_10 38 (by decide)
  have t39 : binOp .pow (.int 10) (.int 39) = some (.fz (.int (10 ^ 39))) := p_10 39 (by decide)
  have m38 := b_mod ((m + 90019 * (n + 1)) ^ 2) (10 ^ 38 + 271) (by decide)
  have m39 := b_mod ((mix1 m n + 1900037 * (n + 1)) ^ 3) (10 ^ 39 + 331) (by decide)
  have x1 : binOp .mul (.int 90019) (.int (n + 1)) = some (.fz (.int (90019 * (n + 1)))) := b_mulL _ _ (by decide) (by decide)
  have x2 : binOp .mul (.int 1900037) (.int (n + 1)) = some (.fz (.int (1900037 * (n + 1)))) := b_mulL _ _ (by decide) (by decide)
  have x3 := b_fdiv (mix2 m n) 8192 (by decide) (by decide)
  have x4 := b_mod (mix2 m n / 8192) b hb
  let C := evCl G F k
  let ρ0 : Env := [.pn (bagV a m n), .fz (.int b), .un, .un]
  let ρ1 : Env := [.pn (bagV a m (n + 1)), .fz (.int b), .un, .un]
  let ρ2 : Env := [.pn (bagV a m (n + 1)), .fz (.int b), .fz (.int (mix1 m n)), .un]
  let ρ3 : Env := [.pn (bagV a m (n + 1)), .fz (.int b), .fz (.int (mix2 m n)), .un]
  have h1 : evS G C (.ite (.cmp .gt (.idx (.var 0) (.lit (.int 0))) (.lit (.int 0)))
    [.asg (.name 3) (.bin .mod (.bi .int [(.ref, (.idx (.var 0) (.lit (.int 0))))]) (.var 1)),
     .setIdx 0 (.lit (.int 0)) (.bin .fdiv (.idx (.var 0) (.lit (.int 0))) (.var 1)),
     .ret (.var 3)]
    []) ρ0 = some (.nx, ρ0) := by
    show (if decide (0 < a) = true then evSs G C _ ρ0 else some (.nx, ρ0)) = _
    rw [if_neg (by simpa using ha)]
  have h2 : evS G C (.setIdx 0 (.lit (.int 2)) (.bin .add (.idx (.var 0) (.lit (.int 2))) (.lit (.int 1)))) ρ0 = some (.nx, ρ1) := rfl
  have e3 : evE G C (.bin .mod (.bin .pow (.bi .int [(.ref, (.bin .add (.idx (.var 0) (.lit (.int 1))) (.bin .mul (.lit (.int 90019)) (.idx (.var 0) (.lit (.int 2))))))]) (.lit (.int 2))) (.bin .add (.bin .pow (.lit (.int 10)) (.lit (.int 38))) (.lit (.int 271)))) ρ1 = some (.fz (.int (mix1 m n)), ρ1) := by
    have hmul : evE G C (.bin .mul (.lit (.int 90019)) (.idx (.var 0) (.lit (.int 2)))) ρ1 = some (.fz (.int (90019 * (n + 1))), ρ1) := bin_ev rfl rfl (rb := .fz (.int (n + 1))) rfl rfl x1
    have hadd : evE G C (.bin .add (.idx (.var 0) (.lit (.int 1))) (.bin .mul (.lit (.int 90019)) (.idx (.var 0) (.lit (.int 2))))) ρ1 = some (.fz (.int (m + 90019 * (n + 1))), ρ1) := bin_ev (ra := .fz (.int m)) rfl rfl hmul rfl (b_add _ _)
    have hpow : evE G C (.bin .pow (.bi .int [(.ref, (.bin .add (.idx (.var 0) (.lit (.int 1))) (.bin .mul (.lit (.int 90019)) (.idx (.var 0) (.lit (.int 2))))))]) (.lit (.int 2))) ρ1 = some (.fz (.int ((m + 90019 * (n + 1)) ^ 2)), ρ1) := bin_ev (int_ev hadd rfl) rfl rfl rfl q1
    have ht : evE G C (.bin .pow (.lit (.int 10)) (.lit (.int 38))) ρ1 = some (.fz (.int (10 ^ 38)), ρ1) := bin_ev rfl rfl rfl rfl t38
    have ht2 : evE G C (.bin .add (.bin .pow (.lit (.int 10)) (.lit (.int 38))) (.lit (.int 271))) ρ1 = some (.fz (.int (10 ^ 38 + 271)), ρ1) := bin_ev ht rfl rfl rfl (b_add _ _)
    exact bin_ev hpow rfl ht2 rfl m38
  have e4 : evE G C (.bin .mod (.bin .pow (.bi .int [(.ref, (.bin .add (.var 2) (.bin .mul (.lit (.int 1900037)) (.idx (.var 0) (.lit (.int 2))))))]) (.lit (.int 3))) (.bin .add (.bin .pow (.lit (.int 10)) (.lit (.int 39))) (.lit (.int 331)))) ρ2 = some (.fz (.int (mix2 m n)), ρ2) := by
    have hmul : evE G C (.bin .mul (.lit (.int 1900037)) (.idx (.var 0) (.lit (.int 2)))) ρ2 = some (.fz (.int (1900037 * (n + 1))), ρ2) := bin_ev rfl rfl (rb := .fz (.int (n + 1))) rfl rfl x2
    have hadd : evE G C (.bin .add (.var 2) (.bin .mul (.lit (.int 1900037)) (.idx (.var 0) (.lit (.int 2))))) ρ2 = some (.fz (.int (mix1 m n + 1900037 * (n + 1))), ρ2) := bin_evV (i := 2) rfl rfl hmul rfl (b_add _ _)
    have hpow : evE G C (.bin .pow (.bi .int [(.ref, (.bin .add (.var 2) (.bin .mul (.lit (.int 1900037)) (.idx (.var 0) (.lit (.int 2))))))]) (.lit (.int 3))) ρ2 = some (.fz (.int ((mix1 m n + 1900037 * (n + 1)) ^ 3)), ρ2) := bin_ev (int_ev hadd rfl) rfl rfl rfl q2
    have ht : evE G C (.bin .pow (.lit (.int 10)) (.lit (.int 39))) ρ2 = some (.fz (.int (10 ^ 39)), ρ2) := bin_ev rfl rfl rfl rfl t39
    have ht2 : evE G C (.bin .add (.bin .pow (.lit (.int 10)) (.lit (.int 39))) (.lit (.int 331))) ρ2 = some (.fz (.int (10 ^ 39 + 331)), ρ2) := bin_ev ht rfl rfl rfl (b_add _ _)
    exact bin_ev hpow rfl ht2 rfl m39
  have e5 : evE G C (.bin .mod (.bin .fdiv (.var 2) (.lit (.int 8192))) (.var 1)) ρ3 = some (.fz (.int (mix2 m n / 8192 % b)), ρ3) := by
    have hd : evE G C (.bin .fdiv (.var 2) (.lit (.int 8192))) ρ3 = some (.fz (.int (mix2 m n / 8192)), ρ3) := by
      rw [x_bin]
      show ((binOp .fdiv (.int (mix2 m n)) (.int 8192)).map fun r => (r, ρ3)) = _
      rw [x3]
      rfl
    rw [x_bin, hd]
    show ((binOp .mod (.int (mix2 m n / 8192)) (.int b)).map fun r => (r, ρ3)) = _
    rw [x4]
    rfl
  have hf : f_law_grab.m = 4 := rfl
  have hbd : f_law_grab.body = [.ite (.cmp .gt (.idx (.var 0) (.lit (.int 0))) (.lit (.int 0)))
    [.asg (.name 3) (.bin .mod (.bi .int [(.ref, (.idx (.var 0) (.lit (.int 0))))]) (.var 1)),
     .setIdx 0 (.lit (.int 0)) (.bin .fdiv (.idx (.var 0) (.lit (.int 0))) (.var 1)),
     .ret (.var 3)]
    [],
  .setIdx 0 (.lit (.int 2)) (.bin .add (.idx (.var 0) (.lit (.int 2))) (.lit (.int 1))),
  .asg (.name 2) (.bin .mod (.bin .pow (.bi .int [(.ref, (.bin .add (.idx (.var 0) (.lit (.int 1))) (.bin .mul (.lit (.int 90019)) (.idx (.var 0) (.lit (.int 2))))))]) (.lit (.int 2))) (.bin .add (.bin .pow (.lit (.int 10)) (.lit (.int 38))) (.lit (.int 271)))),
  .asg (.name 2) (.bin .mod (.bin .pow (.bi .int [(.ref, (.bin .add (.var 2) (.bin .mul (.lit (.int 1900037)) (.idx (.var 0) (.lit (.int 2))))))]) (.lit (.int 3))) (.bin .add (.bin .pow (.lit (.int 10)) (.lit (.int 39))) (.lit (.int 331)))),
  .ret (.bin .mod (.bin .fdiv (.var 2) (.lit (.int 8192))) (.var 1))] := rfl
  have hst : startE 4 [(true, bagV a m n), (false, .int b)] = ρ0 := rfl
  rw [fn_eq, if_pos (by rw [hf]; show 2 ≤ 4; omega), hf, hst, hbd, q_cons, h1, th_nx, q_cons, h2, th_nx, q_cons, s_asgN, e3, Option.bind_some]
  show ((thenS (some (.nx, ρ2)) fun ρ' => _).bind _) = _
  rw [th_nx, q_cons, s_asgN, e4, Option.bind_some]
  show ((thenS (some (.nx, ρ3)) fun ρ' => _).bind _) = _
  rw [th_nx, q_cons, s_ret, e5]
  rfl
/-- a draw -/
theorem e_grab (k q : Nat) (v : PV) (b : Int) (hv : BG (q + 1) v) (hb : 0 < b) (hb2 : b < 18446744073709551616) : ∃ (d : Int) (v' : PV), evCl G F (k + 1) c_law_grab [(true, v), (false, .int b)] = some (.fz (.int d), [v']) ∧ 0 ≤ d ∧ d < b ∧ BG q v' := by
  obtain ⟨a, m, n, rfl, h1, h2, h3, h4⟩ := hv
  by_cases ha : 0 < a
  · exact ⟨_, _, grab_big k a m n b ha hb hb2, Int.emod_nonneg _ (by omega), Int.emod_lt_of_pos _ hb, a / b, m, n, rfl, h1, h2, h3, by omega⟩
  · exact ⟨_, _, grab_small k a m n b ha hb h1 h2 h3 (by omega), Int.emod_nonneg _ (by omega), Int.emod_lt_of_pos _ hb, a, m, n + 1, rfl, h1, h2, by omega, by omega⟩
end EV.Law
set_option linter.all false
set_option maxRecDepth 100000
namespace EV.Law
open PySem EV
theorem e_law_bag (k : Nat) (ns : List Int) (a : Nat) (ha : a ≤ 1000) : ∃ v : PV, evCl G F (k + 1) c_law_bag [(false, .lst (ns.map PV.int)), (false, .int (a : Int))] = some (.fr v, []) ∧ BG 1000000000 v := by
  obtain ⟨c, hc⟩ : ∃ c : Int, c = if h : a < ns.length then ns[a] else 0 := ⟨_, rfl⟩
  let P : Int := 10 ^ 37 + 163
  have hP : (0 : Int) < 10 ^ 37 + 163 := by decide
  have h0 := Int.emod_nonneg c (show (10 ^ 37 + 163 : Int) ≠ 0 by decide)
  have h1 := Int.emod_lt_of_pos c hP
  refine ⟨bagV (if (if c < 0 then -c else c) - 10 ^ 18 > 0 then (if c < 0 then -c else c) - 10 ^ 18 else 0) (c % (10 ^ 37 + 163) * 89 + 71 * (a : Int) + 53) 0, ?_, _, _, _, rfl, by omega, by omega, by omega, by omega⟩
  refine (u_law_bag k _).trans ?_
  generalize evCl G F k = C
  let ρ : Env := [.fz (.lst (ns.map PV.int)), .fz (.int (a : Int)), .fz (.int c)]
  have t1 : evS G C (.asg (.name 2) (.ite (.cmp .lt (.var 1) (.bi .len [(.ref, (.var 0))])) (.idx (.var 0) (.var 1)) (.lit (.int 0)))) (startE 3 [(false, .lst (ns.map PV.int)), (false, .int (a : Int))]) = some (.nx, ρ) := by
    by_cases h : a < ns.length
    · have hcc : c = ns[a] := by rw [hc, dif_pos h]
      have g : ns[a]? = some c := by rw [List.getElem?_eq_getElem h, hcc]
      have g2 : ns[a] = c := hcc.symm
      simp [fn_eq, startE, slotOf, q_nil, q_cons, th_nx, th_rt, th_br, th_ct, th_if, s_asgN, s_asgT, s_par, p_nil, p_cons, s_expr, s_ret, s_retN, s_ite, s_setIdx, s_app, setAt, appTo, x_lit, x_glo, x_var, x_tup, x_lst, x_bin, x_neg, x_cmp, x_chain, x_ands, x_ors, x_and1, x_or1, andK_bl, orK_bl, x_and2, x_or2, x_not, x_ite, x_idx, sliceOf, x_slc, x_call, x_callK, x_bi, x_isi, x_rng1, x_rng2, a_nil, a_val, a_ref, k_nil, k_cons, o_none, o_some, val_fz, val_fr, d_slot, d_val, ds_nil, ds_cons, t_some, bw, use, peek, put, modify, truthy, isStr, avGet, avPut, slots, vals?, cmpOp, ords, isIt, isNon, within, b_add, b_sub, b_catT, b_catL, bias, biEv, tyOf, flRv, finE, mkSeq, PV.int?, PV.seq?, PV.lst?, ints?, bindP, bindPs, rangeItems, pick, eo_ii, eo_ss, eo_bb, eo_sn, eo_in, eo_ni, eo_ns, eo_nn, pq_ii, pq_ss, pq_bb, pq_in, pq_ni, pq_sn, pq_ns, pq_nn, h, ix_nat, g, g2, ρ]
    · have hcc : c = 0 := by rw [hc, dif_neg h]
      simp [fn_eq, startE, slotOf, q_nil, q_cons, th_nx, th_rt, th_br, th_ct, th_if, s_asgN, s_asgT, s_par, p_nil, p_cons, s_expr, s_ret, s_retN, s_ite, s_setIdx, s_app, setAt, appTo, x_lit, x_glo, x_var, x_tup, x_lst, x_bin, x_neg, x_cmp, x_chain, x_ands, x_ors, x_and1, x_or1, andK_bl, orK_bl, x_and2, x_or2, x_not, x_ite, x_idx, sliceOf, x_slc, x_call, x_callK, x_bi, x_isi, x_rng1, x_rng2, a_nil, a_val, a_ref, k_nil, k_cons, o_none, o_some, val_fz, val_fr, d_slot, d_val, ds_nil, ds_cons, t_some, bw, use, peek, put, modify, truthy, isStr, avGet, avPut, slots, vals?, cmpOp, ords, isIt, isNon, within, b_add, b_sub, b_catT, b_catL, bias, biEv, tyOf, flRv, finE, mkSeq, PV.int?, PV.seq?, PV.lst?, ints?, bindP, bindPs, rangeItems, pick, eo_ii, eo_ss, eo_bb, eo_sn, eo_in, eo_ni, eo_ns, eo_nn, pq_ii, pq_ss, pq_bb, pq_in, pq_ni, pq_sn, pq_ns, pq_nn, h, hcc, ρ]
  have t18 : evE G C (.bin .pow (.lit (.int 10)) (.lit (.int 18))) ρ = some (.fz (.int (10 ^ 18)), ρ) := bin_ev rfl rfl rfl rfl (p_10 18 (by decide))
  have t37 : evE G C (.bin .pow (.lit (.int 10)) (.lit (.int 37))) ρ = some (.fz (.int (10 ^ 37)), ρ) := bin_ev rfl rfl rfl rfl (p_10 37 (by decide))
  have hP2 : evE G C (.bin .add (.bin .pow (.lit (.int 10)) (.lit (.int 37))) (.lit (.int 163))) ρ = some (.fz (.int (10 ^ 37 + 163)), ρ) := bin_ev t37 rfl rfl rfl (b_add _ _)
  have habs : evE G C (.bi .abs [(.ref, (.var 2))]) ρ = some (.fz (.int (if c < 0 then -c else c)), ρ) := rfl
  have hsub : evE G C (.bin .sub (.bi .abs [(.ref, (.var 2))]) (.bin .pow (.lit (.int 10)) (.lit (.int 18)))) ρ = some (.fz (.int ((if c < 0 then -c else c) - 10 ^ 18)), ρ) := bin_ev habs rfl t18 rfl (b_sub _ _)
  have hmax : evE G C (.bi .max [(.ref, (.lit (.int 0))), (.ref, (.bin .sub (.bi .abs [(.ref, (.var 2))]) (.bin .pow (.lit (.int 10)) (.lit (.int 18)))))]) ρ = some (.fz (.int (if (if c < 0 then -c else c) - 10 ^ 18 > 0 then (if c < 0 then -c else c) - 10 ^ 18 else 0)), ρ) := by
    have hb : bw (.bin .sub (.bi .abs [(.ref, (.var 2))]) (.bin .pow (.lit (.int 10)) (.lit (.int 18)))) (evE G C (.bin .sub (.bi .abs [(.ref, (.var 2))]) (.bin .pow (.lit (.int 10)) (.lit (.int 18)))) ρ) ρ = some (.val (.int ((if c < 0 then -c else c) - 10 ^ 18)), ρ) := by rw [hsub]; rfl
    have hb0 : bw (.lit (.int 0)) (evE G C (.lit (.int 0)) ρ) ρ = some (.val (.int 0), ρ) := rfl
    have hargs : evAs G C [(.ref, (.lit (.int 0))), (.ref, (.bin .sub (.bi .abs [(.ref, (.var 2))]) (.bin .pow (.lit (.int 10)) (.lit (.int 18)))))] ρ = some ([.val (.int 0), .val (.int ((if c < 0 then -c else c) - 10 ^ 18))], ρ) := by
      simp only [a_ref, a_nil, hb, hb0, Option.bind_some, Option.map_some]
    rw [x_bi, hargs]
    rfl
  have hmod : evE G C (.bin .mod (.bi .int [(.ref, (.var 2))]) (.bin .add (.bin .pow (.lit (.int 10)) (.lit (.int 37))) (.lit (.int 163)))) ρ = some (.fz (.int (c % (10 ^ 37 + 163))), ρ) := bin_ev (ra := .fz (.int c)) rfl rfl hP2 rfl (b_mod _ _ hP)
  have h89 : evE G C (.bin .mul (.bin .mod (.bi .int [(.ref, (.var 2))]) (.bin .add (.bin .pow (.lit (.int 10)) (.lit (.int 37))) (.lit (.int 163)))) (.lit (.int 89))) ρ = some (.fz (.int (c % (10 ^ 37 + 163) * 89)), ρ) := bin_ev hmod rfl rfl rfl (b_mulR _ _ (by decide) (by decide))
  have h71 : evE G C (.bin .mul (.lit (.int 71)) (.var 1)) ρ = some (.fz (.int (71 * (a : Int))), ρ) := by
    have hm := b_mulL 71 (a : Int) (by decide) (by decide)
    rw [x_bin]
    show ((binOp .mul (.int 71) (.int (a : Int))).map fun r => (r, ρ)) = _
    rw [hm]
    rfl
  have hadd := bin_ev (op := .add) (C := C) h89 rfl h71 rfl (b_add _ _)
  have hm : evE G C (.bin .add (.bin .add (.bin .mul (.bin .mod (.bi .int [(.ref, (.var 2))]) (.bin .add (.bin .pow (.lit (.int 10)) (.lit (.int 37))) (.lit (.int 163)))) (.lit (.int 89))) (.bin .mul (.lit (.int 71)) (.var 1))) (.lit (.int 53))) ρ = some (.fz (.int (c % (10 ^ 37 + 163) * 89 + 71 * (a : Int) + 53)), ρ) := bin_ev hadd rfl rfl rfl (b_add _ _)
  have hl : evE G C (.lit (.int 0)) ρ = some (.fz (.int 0), ρ) := rfl
  have hf : f_law_bag.m = 3 := rfl
  have hbd : f_law_bag.body = [.asg (.name 2) (.ite (.cmp .lt (.var 1) (.bi .len [(.ref, (.var 0))])) (.idx (.var 0) (.var 1)) (.lit (.int 0))),
  .ret (.lst [(.val, (.bi .max [(.ref, (.lit (.int 0))), (.ref, (.bin .sub (.bi .abs [(.ref, (.var 2))]) (.bin .pow (.lit (.int 10)) (.lit (.int 18)))))])), (.val, (.bin .add (.bin .add (.bin .mul (.bin .mod (.bi .int [(.ref, (.var 2))]) (.bin .add (.bin .pow (.lit (.int 10)) (.lit (.int 37))) (.lit (.int 163)))) (.lit (.int 89))) (.bin .mul (.lit (.int 71)) (.var 1))) (.lit (.int 53)))), (.val, (.lit (.int 0)))])] := rfl
  rw [fn_eq, if_pos (by rw [hf]; show 2 ≤ 3; omega), hf, hbd, q_cons, t1, th_nx, q_cons, s_ret, x_lst]
  simp only [a_val, a_nil, hmax, hm, hl, Option.bind_some, Option.map_some, val_fz]
  rfl
end EV.Law
set_option linter.all false
set_option maxRecDepth 100000
namespace EV.Law
open PySem EV
inductive CR | ok (ys : List Int) (a : Nat) | bad (p : Nat) (w : Str)
def CR.pv : CR → PV
  | .ok ys a => .tup [sg ys, .int (a : Int)]
  | .bad p w => .tup [.non, .tup [.int (p : Int), .str w]]
def chunkS (f : Fm) (xs : List Int) (a : Nat) (u : U) : CR := match longS f xs a with
  | .bad p w => .bad p w
  | .ok w p => if xs.length < p + w.toNat then .bad xs.length "short" else
    if u ≠ .check then .ok ((xs.drop p).take w.toNat) (p + w.toNat) else
    match xs[p + w.toNat]? with
    | none => .bad xs.length "short"
    | some x => if x = ((xs.drop p).take w.toNat).sum % f.b then .ok ((xs.drop p).take w.toNat) (p + w.toNat + 1) else .bad (p + w.toNat) "check"
def CE_ (f : Fm) (xs : List Int) (a2 : PV) (u : U) (w : PV) : Env := [.fz f.pv, .fz (sg xs), .fz a2, .fz (.str u.str), .un, .un, .fz w]
def chS1 : Sm := .asg (.tup [(.name 6), (.name 2)]) (.call c_law_long [(.val, (.var 0)), (.val, (.var 1)), (.val, (.var 2))])
def chRest : List Sm := f_law_chunk.body.drop 1
theorem ch_first (k : Nat) (f : Fm) (hf : f.Ok) (xs : List Int) (a : Nat) (u : U) : evS G (evCl G F (k + 1)) chS1 (startE 7 [(false, f.pv), (false, sg xs), (false, .int (a : Int)), (false, .str u.str)]) = some (.nx, CE_ f xs (lrV (longS f xs a)).2 u (lrV (longS f xs a)).1) := by
  have hg := e_law_long k f hf xs a
  have hp : (longS f xs a).pv = .tup [(lrV (longS f xs a)).1, (lrV (longS f xs a)).2] := by
    cases longS f xs a <;> rfl
  rw [hp] at hg
  generalize (lrV (longS f xs a)).1 = z1 at hg ⊢
  generalize (lrV (longS f xs a)).2 = z2 at hg ⊢
  simp [chS1, CE_, fn_eq, startE, slotOf, q_nil, q_cons, th_nx, th_rt, th_br, th_ct, th_if, s_asgN, s_asgT, s_par, p_nil, p_cons, s_expr, s_ret, s_retN, s_ite, s_setIdx, s_app, setAt, appTo, x_lit, x_glo, x_var, x_tup, x_lst, x_bin, x_neg, x_cmp, x_chain, x_ands, x_ors, x_and1, x_or1, andK_bl, orK_bl, x_and2, x_or2, x_not, x_ite, x_idx, sliceOf, x_slc, x_call, x_callK, x_bi, x_isi, x_rng1, x_rng2, a_nil, a_val, a_ref, k_nil, k_cons, o_none, o_some, val_fz, val_fr, d_slot, d_val, ds_nil, ds_cons, t_some, bw, use, peek, put, modify, truthy, isStr, avGet, avPut, slots, vals?, cmpOp, ords, isIt, isNon, within, b_add, b_sub, b_catT, b_catL, bias, biEv, tyOf, flRv, finE, mkSeq, PV.int?, PV.seq?, PV.lst?, ints?, bindP, bindPs, rangeItems, pick, eo_ii, eo_ss, eo_bb, eo_sn, eo_in, eo_ni, eo_ns, eo_nn, pq_ii, pq_ss, pq_bb, pq_in, pq_ni, pq_sn, pq_ns, pq_nn, hg]
theorem ch_bad (k : Nat) (f : Fm) (xs : List Int) (u : U) (z : PV) : ∃ ρ', evSs G (evCl G F (k + 1)) chRest (CE_ f xs z u .non) = some (.rt (.fz (.tup [.non, z])), .fz f.pv :: .fz (sg xs) :: .fz z :: .fz (.str u.str) :: ρ') :=
  ⟨_, by simp [chRest, f_law_chunk, CE_, fn_eq, startE, slotOf, q_nil, q_cons, th_nx, th_rt, th_br, th_ct, th_if, s_asgN, s_asgT, s_par, p_nil, p_cons, s_expr, s_ret, s_retN, s_ite, s_setIdx, s_app, setAt, appTo, x_lit, x_glo, x_var, x_tup, x_lst, x_bin, x_neg, x_cmp, x_chain, x_ands, x_ors, x_and1, x_or1, andK_bl, orK_bl, x_and2, x_or2, x_not, x_ite, x_idx, sliceOf, x_slc, x_call, x_callK, x_bi, x_isi, x_rng1, x_rng2, a_nil, a_val, a_ref, k_nil, k_cons, o_none, o_some, val_fz, val_fr, d_slot, d_val, ds_nil, ds_cons, t_some, bw, use, peek, put, modify, truthy, isStr, avGet, avPut, slots, vals?, cmpOp, ords, isIt, isNon, within, b_add, b_sub, b_catT, b_catL, bias, biEv, tyOf, flRv, finE, mkSeq, PV.int?, PV.seq?, PV.lst?, ints?, bindP, bindPs, rangeItems, pick, eo_ii, eo_ss, eo_bb, eo_sn, eo_in, eo_ni, eo_ns, eo_nn, pq_ii, pq_ss, pq_bb, pq_in, pq_ni, pq_sn, pq_ns, pq_nn, LIM]; rfl⟩
set_option maxHeartbeats 4000000 in
theorem ch_long (k : Nat) (f : Fm) (xs : List Int) (u : U) (n p : Nat) (h : xs.length < p + n) : ∃ ρ', evSs G (evCl G F (k + 1)) chRest (CE_ f xs (.int (p : Int)) u (.int (n : Int))) = some (.rt (.fz (.tup [.non, .tup [.int (xs.length : Int), .str "short"]])), .fz f.pv :: .fz (sg xs) :: .fz (.int (p : Int)) :: .fz (.str u.str) :: ρ') := by
  have c1 : (xs.length : Int) < (p : Int) + (n : Int) := by omega
  exact ⟨_, by simp [chRest, f_law_chunk, CE_, fn_eq, startE, slotOf, q_nil, q_cons, th_nx, th_rt, th_br, th_ct, th_if, s_asgN, s_asgT, s_par, p_nil, p_cons, s_expr, s_ret, s_retN, s_ite, s_setIdx, s_app, setAt, appTo, x_lit, x_glo, x_var, x_tup, x_lst, x_bin, x_neg, x_cmp, x_chain, x_ands, x_ors, x_and1, x_or1, andK_bl, orK_bl, x_and2, x_or2, x_not, x_ite, x_idx, sliceOf, x_slc, x_call, x_callK, x_bi, x_isi, x_rng1, x_rng2, a_nil, a_val, a_ref, k_nil, k_cons, o_none, o_some, val_fz, val_fr, d_slot, d_val, ds_nil, ds_cons, t_some, bw, use, peek, put, modify, truthy, isStr, avGet, avPut, slots, vals?, cmpOp, ords, isIt, isNon, within, b_add, b_sub, b_catT, b_catL, bias, biEv, tyOf, flRv, finE, mkSeq, PV.int?, PV.seq?, PV.lst?, ints?, bindP, bindPs, rangeItems, pick, eo_ii, eo_ss, eo_bb, eo_sn, eo_in, eo_ni, eo_ns, eo_nn, pq_ii, pq_ss, pq_bb, pq_in, pq_ni, pq_sn, pq_ns, pq_nn, sg, c1, h, LIM]; rfl⟩
set_option maxHeartbeats 4000000 in
theorem ch_plain (k : Nat) (f : Fm) (xs : List Int) (u : U) (hu : u ≠ .check) (n p : Nat) (hp : p ≤ xs.length) (h : p + n ≤ xs.length) : ∃ a2 ρ', evSs G (evCl G F (k + 1)) chRest (CE_ f xs (.int (p : Int)) u (.int (n : Int))) = some (.rt (.fz (.tup [sg ((xs.drop p).take n), .int ((p : Int) + (n : Int))])), .fz f.pv :: .fz (sg xs) :: .fz a2 :: .fz (.str u.str) :: ρ') := by
  have c1 : ¬ (xs.length : Int) < (p : Int) + (n : Int) := by omega
  have c2 : ¬ xs.length < p + n := by omega
  have hc : cut (xs.map PV.int) (some (p : Int)) (some ((p : Int) + (n : Int))) = ((xs.drop p).take n).map PV.int := by
    rw [cut_nat _ _ _ (by simpa using hp), List.map_take, List.map_drop]
  exact ⟨_, _, by simp [chRest, f_law_chunk, CE_, fn_eq, startE, slotOf, q_nil, q_cons, th_nx, th_rt, th_br, th_ct, th_if, s_asgN, s_asgT, s_par, p_nil, p_cons, s_expr, s_ret, s_retN, s_ite, s_setIdx, s_app, setAt, appTo, x_lit, x_glo, x_var, x_tup, x_lst, x_bin, x_neg, x_cmp, x_chain, x_ands, x_ors, x_and1, x_or1, andK_bl, orK_bl, x_and2, x_or2, x_not, x_ite, x_idx, sliceOf, x_slc, x_call, x_callK, x_bi, x_isi, x_rng1, x_rng2, a_nil, a_val, a_ref, k_nil, k_cons, o_none, o_some, val_fz, val_fr, d_slot, d_val, ds_nil, ds_cons, t_some, bw, use, peek, put, modify, truthy, isStr, avGet, avPut, slots, vals?, cmpOp, ords, isIt, isNon, within, b_add, b_sub, b_catT, b_catL, bias, biEv, tyOf, flRv, finE, mkSeq, PV.int?, PV.seq?, PV.lst?, ints?, bindP, bindPs, rangeItems, pick, eo_ii, eo_ss, eo_bb, eo_sn, eo_in, eo_ni, eo_ns, eo_nn, pq_ii, pq_ss, pq_bb, pq_in, pq_ni, pq_sn, pq_ns, pq_nn, sg, c1, c2, hc, u_beq, hu, LIM, -List.map_take, -List.map_drop]; exact ⟨rfl, rfl⟩⟩
set_option maxHeartbeats 4000000 in
theorem ch_end (k : Nat) (f : Fm) (xs : List Int) (n p : Nat) (hp : p ≤ xs.length) (h : p + n = xs.length) : ∃ a2 ρ', evSs G (evCl G F (k + 1)) chRest (CE_ f xs (.int (p : Int)) .check (.int (n : Int))) = some (.rt (.fz (.tup [.non, .tup [.int (xs.length : Int), .str "short"]])), .fz f.pv :: .fz (sg xs) :: .fz a2 :: .fz (.str U.check.str) :: ρ') := by
  have c1 : ¬ (xs.length : Int) < (p : Int) + (n : Int) := by omega
  have c2 : ¬ xs.length < p + n := by omega
  have c3 : (xs.length : Int) ≤ (p : Int) + (n : Int) := by omega
  have c4 : xs.length ≤ p + n := by omega
  have hc : cut (xs.map PV.int) (some (p : Int)) (some ((p : Int) + (n : Int))) = ((xs.drop p).take n).map PV.int := by
    rw [cut_nat _ _ _ (by simpa using hp), List.map_take, List.map_drop]
  exact ⟨_, _, by simp (decide := true) [chRest, f_law_chunk, CE_, fn_eq, startE, slotOf, q_nil, q_cons, th_nx, th_rt, th_br, th_ct, th_if, s_asgN, s_asgT, s_par, p_nil, p_cons, s_expr, s_ret, s_retN, s_ite, s_setIdx, s_app, setAt, appTo, x_lit, x_glo, x_var, x_tup, x_lst, x_bin, x_neg, x_cmp, x_chain, x_ands, x_ors, x_and1, x_or1, andK_bl, orK_bl, x_and2, x_or2, x_not, x_ite, x_idx, sliceOf, x_slc, x_call, x_callK, x_bi, x_isi, x_rng1, x_rng2, a_nil, a_val, a_ref, k_nil, k_cons, o_none, o_some, val_fz, val_fr, d_slot, d_val, ds_nil, ds_cons, t_some, bw, use, peek, put, modify, truthy, isStr, avGet, avPut, slots, vals?, cmpOp, ords, isIt, isNon, within, b_add, b_sub, b_catT, b_catL, bias, biEv, tyOf, flRv, finE, mkSeq, PV.int?, PV.seq?, PV.lst?, ints?, bindP, bindPs, rangeItems, pick, eo_ii, eo_ss, eo_bb, eo_sn, eo_in, eo_ni, eo_ns, eo_nn, pq_ii, pq_ss, pq_bb, pq_in, pq_ni, pq_sn, pq_ns, pq_nn, sg, c1, c2, c3, c4, hc, U.str, LIM, -List.map_take, -List.map_drop]; exact ⟨rfl, rfl⟩⟩
set_option maxHeartbeats 4000000 in
theorem ch_check (k : Nat) (f : Fm) (hf : f.Ok) (xs : List Int) (n p : Nat) (hp : p ≤ xs.length) (h : p + n < xs.length) : ∃ a2 ρ', evSs G (evCl G F (k + 1)) chRest (CE_ f xs (.int (p : Int)) .check (.int (n : Int))) =
    some (.rt (.fz (if xs[p + n] = ((xs.drop p).take n).sum % f.b then .tup [sg ((xs.drop p).take n), .int ((p : Int) + (n : Int) + 1)] else .tup [.non, .tup [.int ((p : Int) + (n : Int)), .str "check"]])), .fz f.pv :: .fz (sg xs) :: .fz a2 :: .fz (.str U.check.str) :: ρ') := by
  have hb : 0 < f.b := by have := hf.b1; omega
  have ec : ((p : Int) + (n : Int)) = ((p + n : Nat) : Int) := by omega
  have c1 : ¬ (xs.length : Int) < (p : Int) + (n : Int) := by omega
  have c2 : ¬ xs.length < p + n := by omega
  have c3 : ¬ (xs.length : Int) ≤ (p : Int) + (n : Int) := by omega
  have c4 : ¬ xs.length ≤ p + n := by omega
  have hc : cut (xs.map PV.int) (some (p : Int)) (some ((p : Int) + (n : Int))) = ((xs.drop p).take n).map PV.int := by
    rw [cut_nat _ _ _ (by simpa using hp), List.map_take, List.map_drop]
  have hi := ints_map ((xs.drop p).take n)
  have g1 : xs[p + n]? = some xs[p + n] := List.getElem?_eq_getElem h
  have hix : ixN xs.length ((p : Int) + (n : Int)) = some (p + n) := by rw [ec, ix_nat, if_pos h]
  have i0 : ixN 6 0 = some 0 := rfl
  generalize hx : xs[p + n] = x at g1 ⊢
  generalize hy : (xs.drop p).take n = ys at hc hi ⊢
  by_cases he : x = ys.sum % f.b
  · rw [if_pos he]
    exact ⟨_, _, by simp (decide := true) [chRest, f_law_chunk, CE_, fn_eq, startE, slotOf, q_nil, q_cons, th_nx, th_rt, th_br, th_ct, th_if, s_asgN, s_asgT, s_par, p_nil, p_cons, s_expr, s_ret, s_retN, s_ite, s_setIdx, s_app, setAt, appTo, x_lit, x_glo, x_var, x_tup, x_lst, x_bin, x_neg, x_cmp, x_chain, x_ands, x_ors, x_and1, x_or1, andK_bl, orK_bl, x_and2, x_or2, x_not, x_ite, x_idx, sliceOf, x_slc, x_call, x_callK, x_bi, x_isi, x_rng1, x_rng2, a_nil, a_val, a_ref, k_nil, k_cons, o_none, o_some, val_fz, val_fr, d_slot, d_val, ds_nil, ds_cons, t_some, bw, use, peek, put, modify, truthy, isStr, avGet, avPut, slots, vals?, cmpOp, ords, isIt, isNon, within, b_add, b_sub, b_catT, b_catL, bias, biEv, tyOf, flRv, finE, mkSeq, PV.int?, PV.seq?, PV.lst?, ints?, bindP, bindPs, rangeItems, pick, eo_ii, eo_ss, eo_bb, eo_sn, eo_in, eo_ni, eo_ns, eo_nn, pq_ii, pq_ss, pq_bb, pq_in, pq_ni, pq_sn, pq_ns, pq_nn, sg, Fm.pv, i0, c1, c2, c3, c4, hc, hi, hix, g1, h, hx, b_mod, hb, ← he, U.str, LIM]; exact ⟨rfl, rfl⟩⟩
  · rw [if_neg he]
    exact ⟨_, _, by simp (decide := true) [chRest, f_law_chunk, CE_, fn_eq, startE, slotOf, q_nil, q_cons, th_nx, th_rt, th_br, th_ct, th_if, s_asgN, s_asgT, s_par, p_nil, p_cons, s_expr, s_ret, s_retN, s_ite, s_setIdx, s_app, setAt, appTo, x_lit, x_glo, x_var, x_tup, x_lst, x_bin, x_neg, x_cmp, x_chain, x_ands, x_ors, x_and1, x_or1, andK_bl, orK_bl, x_and2, x_or2, x_not, x_ite, x_idx, sliceOf, x_slc, x_call, x_callK, x_bi, x_isi, x_rng1, x_rng2, a_nil, a_val, a_ref, k_nil, k_cons, o_none, o_some, val_fz, val_fr, d_slot, d_val, ds_nil, ds_cons, t_some, bw, use, peek, put, modify, truthy, isStr, avGet, avPut, slots, vals?, cmpOp, ords, isIt, isNon, within, b_add, b_sub, b_catT, b_catL, bias, biEv, tyOf, flRv, finE, mkSeq, PV.int?, PV.seq?, PV.lst?, ints?, bindP, bindPs, rangeItems, pick, eo_ii, eo_ss, eo_bb, eo_sn, eo_in, eo_ni, eo_ns, eo_nn, pq_ii, pq_ss, pq_bb, pq_in, pq_ni, pq_sn, pq_ns, pq_nn, sg, Fm.pv, i0, c1, c2, c3, c4, hc, hi, hix, g1, h, hx, b_mod, hb, he, U.str, LIM]; exact ⟨rfl, rfl⟩⟩
theorem e_law_chunk (k : Nat) (f : Fm) (hf : f.Ok) (xs : List Int) (hx : ∀ x ∈ xs, inB f.b x = true) (a : Nat) (ha : a ≤ xs.length) (u : U) : evCl G F (k + 2) c_law_chunk [(false, f.pv), (false, sg xs), (false, .int (a : Int)), (false, .str u.str)] = some (.fz (chunkS f xs a u).pv, []) := by
  refine (u_law_chunk (k + 1) _).trans ?_
  have hm : f_law_chunk.m = 7 := rfl
  have hbd : f_law_chunk.body = chS1 :: chRest := rfl
  rw [fn_eq, if_pos (by rw [hm]; show 4 ≤ 7; omega), hm, hbd, q_cons, ch_first k f hf xs a u, th_nx]
  unfold chunkS
  rcases run_long f hf xs hx u a ha with ⟨n, p, e1, l1, l2, _⟩ | ⟨p, e1, _⟩ | ⟨e1, _⟩
  · rw [e1]
    have hz : (lrV (.ok (n : Int) p)).1 = .int (n : Int) := rfl
    have hz2 : (lrV (.ok (n : Int) p)).2 = .int (p : Int) := rfl
    rw [hz, hz2]
    simp only [Int.toNat_natCast]
    by_cases h1 : xs.length < p + n
    · obtain ⟨ρ', e⟩ := ch_long k f xs u n p h1
      rw [e, if_pos h1]
      rfl
    · rw [if_neg h1]
      by_cases hu : u = .check
      · subst hu
        simp only [ne_eq, not_true_eq_false, if_false]
        by_cases h2 : p + n = xs.length
        · obtain ⟨a2, ρ', e⟩ := ch_end k f xs n p l2 h2
          have g : xs[p + n]? = none := List.getElem?_eq_none (by omega)
          rw [e, g]
          rfl
        · have h3 : p + n < xs.length := by omega
          obtain ⟨a2, ρ', e⟩ := ch_check k f hf xs n p l2 h3
          have g : xs[p + n]? = some xs[p + n] := List.getElem?_eq_getElem h3
          rw [e, g]
          simp only []
          by_cases h4 : xs[p + n] = ((xs.drop p).take n).sum % f.b
          · simp only [if_pos h4]
            rfl
          · simp only [if_neg h4]
            rfl
      · obtain ⟨a2, ρ', e⟩ := ch_plain k f xs u hu n p l2 (by omega)
        rw [e, if_pos hu]
        rfl
  · rw [e1]
    obtain ⟨ρ', e⟩ := ch_bad k f xs u (.tup [.int (p : Int), .str "length"])
    have hz : (lrV (.bad p "length")).1 = .non := rfl
    have hz2 : (lrV (.bad p "length")).2 = .tup [.int (p : Int), .str "length"] := rfl
    rw [hz, hz2, e]
    rfl
  · rw [e1]
    obtain ⟨ρ', e⟩ := ch_bad k f xs u (.tup [.int (xs.length : Int), .str "short"])
    have hz : (lrV (.bad xs.length "short")).1 = .non := rfl
    have hz2 : (lrV (.bad xs.length "short")).2 = .tup [.int (xs.length : Int), .str "short"] := rfl
    rw [hz, hz2, e]
    rfl
end EV.Law
set_option linter.all false
set_option maxRecDepth 100000
namespace EV.Law
open PySem EV
/-! ### a reading, sign by sign -/
inductive R | ok (T : List (Int × List Int)) (B : List Nat) | bad (p : Nat) (w : Str)
def wordS : Sd → Str
  | .head _ => "head" | .tag => "tag" | .len _ => "length" | .sec _ _ => "length" | .sum _ => "check" | .over => "behind" | .room => "" | .body _ _ _ => ""
def endU (u : U) : Bool := u = .fin || u = .stop
def endsF (f : Fm) : Bool := f.tg.any fun r => endU r.2
def endS (f : Fm) : Sd → Bool
  | .room => true | .over => true | .tag => !endsF f | _ => false
def isTold (u : U) : Bool := u = .keep || u = .check
def addLast (T : List (Int × List Int)) (x : Int) : List (Int × List Int) := match T.getLast? with
  | some c => T.dropLast ++ [(c.1, c.2 ++ [x])]
  | none => T
def tellS (f : Fm) (st : Sd) (x : Int) (T : List (Int × List Int)) : List (Int × List Int) := match st with
  | .tag => (match useAt f x with
    | some u => if isTold u then T ++ [(x, [])] else T
    | none => T)
  | .body u _ _ => if isTold u then addLast T x else T
  | _ => T
def lookS (f : Fm) : Sd → Bool
  | .head k => (match f.hd[k]? with
    | some (some _) => true
    | _ => false)
  | .room => false
  | .body u _ _ => decide (u ≠ .skip)
  | _ => true
def rd (f : Fm) : Sd → Nat → List (Int × List Int) → List Nat → List Int → R
  | st, p, T, B, [] => if endS f st then .ok T B else .bad p "short"
  | st, p, T, B, x :: r => match stepS f st x with
    | none => .bad p (wordS st)
    | some st' => rd f st' (p + 1) (tellS f st x T) (if lookS f st then B else B ++ [p]) r
theorem rd_nil (f : Fm) (st : Sd) (p : Nat) (T : List (Int × List Int)) (B : List Nat) : rd f st p T B [] = if endS f st then .ok T B else .bad p "short" := by
  cases st <;> rfl
theorem rd_cons (f : Fm) (st : Sd) (p : Nat) (T : List (Int × List Int)) (B : List Nat) (x : Int) (r : List Int) : rd f st p T B (x :: r) = match stepS f st x with
    | none => .bad p (wordS st)
    | some st' => rd f st' (p + 1) (tellS f st x T) (if lookS f st then B else B ++ [p]) r := by
  cases st <;> rfl
theorem rd_step {f : Fm} {st st' : Sd} {p : Nat} {T : List (Int × List Int)} {B : List Nat} {x : Int} {r : List Int} (h : stepS f st x = some st') : rd f st p T B (x :: r) = rd f st' (p + 1) (tellS f st x T) (if lookS f st then B else B ++ [p]) r := by rw [rd_cons, h]
theorem rd_stop {f : Fm} {st : Sd} {p : Nat} {T : List (Int × List Int)} {B : List Nat} {x : Int} {r : List Int} (h : stepS f st x = none) : rd f st p T B (x :: r) = .bad p (wordS st) := by rw [rd_cons, h]
theorem addLast_app (T : List (Int × List Int)) (s : Int) (zs : List Int) (x : Int) : addLast (T ++ [(s, zs)]) x = T ++ [(s, zs ++ [x])] := by
  unfold addLast
  rw [List.getLast?_append]
  simp
/-- what a body tells -/
def tellN (u : U) (T : List (Int × List Int)) (ys : List Int) : List (Int × List Int) := if isTold u then ys.foldl addLast T else T
theorem fold_app : ∀ (ys : List Int) (T : List (Int × List Int)) (s : Int) (zs : List Int), ys.foldl addLast (T ++ [(s, zs)]) = T ++ [(s, zs ++ ys)]
  | [], T, s, zs => by simp
  | y :: ys, T, s, zs => by
    rw [List.foldl_cons, addLast_app, fold_app ys T s (zs ++ [y])]
    simp
/-- what is not looked at in a body -/
def blN (u : U) (p : Nat) (B : List Nat) (n : Nat) : List Nat := if u = .skip then B ++ List.range' p n else B
theorem blN_step (u : U) (p : Nat) (B : List Nat) (n : Nat) : blN u (p + 1) (if lookS f (.body u l t) then B else B ++ [p]) n = blN u p B (n + 1) := by
  unfold blN lookS
  by_cases h : u = .skip
  · subst h
    simp [List.range'_succ]
  · simp [h]
theorem tell_body (f : Fm) (u : U) (l t x : Int) (T : List (Int × List Int)) (ys : List Int) : tellN u (tellS f (.body u l t) x T) ys = tellN u T (x :: ys) := by
  unfold tellN tellS
  by_cases h : isTold u = true
  · simp [h]
  · simp [h]
theorem rd_body_full (f : Fm) (u : U) : ∀ (ys : List Int) (l t : Int) (p : Nat) (T : List (Int × List Int)) (B : List Nat) (rest : List Int), (ys.length : Int) = l → 0 < l → (u = .check → t % f.b = t) →
    rd f (.body u l t) p T B (ys ++ rest) = rd f (if u = .check then .sum (tot f u t ys) else .tag) (p + ys.length) (tellN u T ys) (blN u p B ys.length) rest
  | [], l, t, p, T, B, rest, h, hl, _ => by simp at h; omega
  | [y], l, t, p, T, B, rest, h, hl, ht => by
    have h1 : ¬ 1 < l := by simp at h; omega
    have e1 := tell_body f u l t y T []
    have e2 := blN_step (f := f) (l := l) (t := t) u p B 0
    have e3 : tot f u t [y] = (if u = .check then (t + y) % f.b else t) := by
      have := tot_step f u t y [] ht
      rw [← this]
      unfold tot
      by_cases hc : u = .check
      · simp [hc]
      · simp [hc]
    have e4 : tellN u (tellS f (.body u l t) y T) [] = tellS f (.body u l t) y T := by unfold tellN; split <;> rfl
    have e5 : blN u (p + 1) (if lookS f (.body u l t) then B else B ++ [p]) 0 = (if lookS f (.body u l t) then B else B ++ [p]) := by unfold blN; split <;> simp
    show rd f (.body u l t) p T B (y :: rest) = _
    rw [rd_cons, step_body, if_neg h1]
    show rd f _ (p + 1) (tellS f (.body u l t) y T) (if lookS f (.body u l t) then B else B ++ [p]) rest = _
    rw [← e4, e1, ← e5, e2, e3]
    by_cases hc : u = .check
    · simp only [if_pos hc]; rfl
    · simp only [if_neg hc]; rfl
  | y :: z :: ys, l, t, p, T, B, rest, h, hl, ht => by
    have h1 : 1 < l := by simp at h; omega
    have ih := rd_body_full f u (z :: ys) (l - 1) (if u = .check then (t + y) % f.b else t) (p + 1) (tellS f (.body u l t) y T) (if lookS f (.body u l t) then B else B ++ [p]) rest (by simp at h ⊢; omega) (by omega) (fun hc => by rw [if_pos hc]; exact Int.emod_emod_of_dvd _ (Int.dvd_refl _))
    rw [tot_step f u t y (z :: ys) ht, tell_body, blN_step] at ih
    show rd f (.body u l t) p T B (y :: ((z :: ys) ++ rest)) = _
    rw [rd_cons, step_body, if_pos h1]
    have e : p + (y :: z :: ys).length = p + 1 + (z :: ys).length := by simp; omega
    rw [e]
    exact ih
theorem rd_body_short (f : Fm) (u : U) : ∀ (ys : List Int) (l t : Int) (p : Nat) (T : List (Int × List Int)) (B : List Nat), (ys.length : Int) < l → rd f (.body u l t) p T B ys = .bad (p + ys.length) "short"
  | [], l, t, p, T, B, h => by rw [rd_nil]; rfl
  | y :: ys, l, t, p, T, B, h => by
    have h1 : 1 < l := by simp at h; omega
    rw [rd_cons, step_body, if_pos h1]
    have ih := rd_body_short f u ys (l - 1) (if u = .check then (t + y) % f.b else t) (p + 1) (tellS f (.body u l t) y T) (if lookS f (.body u l t) then B else B ++ [p]) (by simp at h; omega)
    have e : p + (y :: ys).length = p + 1 + ys.length := by simp; omega
    rw [e]
    exact ih
theorem rd_chunk_full (f : Fm) (u : U) (ys : List Int) (n p : Nat) (T : List (Int × List Int)) (B : List Nat) (h : n ≤ ys.length) :
    rd f (bodyS u (n : Int)) p T B ys = rd f (if u = .check then .sum (totS f u (ys.take n)) else .tag) (p + n) (tellN u T (ys.take n)) (blN u p B n) (ys.drop n) := by
  cases n with
  | zero =>
    have e1 : tellN u T (ys.take 0) = T := by unfold tellN; split <;> rfl
    have e2 : blN u p B 0 = B := by unfold blN; split <;> simp
    have e3 : totS f u (ys.take 0) = 0 := by unfold totS; split <;> simp
    rw [e1, e2, e3]
    have e4 : bodyS u ((0 : Nat) : Int) = if u = .check then .sum 0 else .tag := by unfold bodyS; simp
    rw [e4]
    rfl
  | succ n =>
    have hl : (ys.take (n + 1)).length = n + 1 := by rw [List.length_take]; omega
    have hb : bodyS u ((n + 1 : Nat) : Int) = .body u ((n + 1 : Nat) : Int) 0 := by unfold bodyS; rw [if_pos (by omega)]
    have := rd_body_full f u (ys.take (n + 1)) ((n + 1 : Nat) : Int) 0 p T B (ys.drop (n + 1)) (by rw [hl]) (by omega) (fun _ => Int.zero_emod _)
    rw [List.take_append_drop, hl, tot_0] at this
    rw [hb]
    exact this
theorem rd_chunk_short (f : Fm) (u : U) (ys : List Int) (n p : Nat) (T : List (Int × List Int)) (B : List Nat) (h : ys.length < n) : rd f (bodyS u (n : Int)) p T B ys = .bad (p + ys.length) "short" := by
  have hb : bodyS u (n : Int) = .body u (n : Int) 0 := by unfold bodyS; rw [if_pos (by omega)]
  rw [hb]
  exact rd_body_short f u ys _ _ p T B (by omega)
/-- a length -/
theorem rd_long (f : Fm) (hf : f.Ok) (xs : List Int) (hx : ∀ x ∈ xs, inB f.b x = true) (u : U) (a : Nat) (ha : a ≤ xs.length) (T : List (Int × List Int)) (B : List Nat) :
    (∃ n p : Nat, longS f xs a = .ok (n : Int) p ∧ a < p ∧ p ≤ xs.length ∧ rd f (.len u) a T B (xs.drop a) = rd f (bodyS u (n : Int)) p T B (xs.drop p)) ∨
    (∃ p w, longS f xs a = .bad p w ∧ rd f (.len u) a T B (xs.drop a) = .bad p w) := by
  by_cases h : a < xs.length
  · have g1 : xs[a]? = some xs[a] := List.getElem?_eq_getElem h
    have hd : xs.drop a = xs[a] :: xs.drop (a + 1) := List.drop_eq_getElem_cons h
    have p1 := inB_0 (hx xs[a] (List.getElem_mem h))
    unfold longS
    rw [g1, hd, rd_cons, step_len]
    by_cases h1 : f.w = .one
    · rw [if_pos h1]
      by_cases h2 : xs[a] ≤ f.m
      · left
        obtain ⟨n, hn⟩ := Int.eq_ofNat_of_zero_le p1.1
        refine ⟨n, a + 1, ?_, by omega, h, ?_⟩
        · simp only [if_pos h1, if_pos h2]; rw [hn]
        · rw [if_pos h2, hn]; rfl
      · right
        refine ⟨a, "length", ?_, ?_⟩
        · simp only [if_pos h1, if_neg h2]
        · rw [if_neg h2]; rfl
    · rw [if_neg h1]
      by_cases h2 : (if f.w = .high then xs[a] * f.b else xs[a]) ≤ f.m
      · have h2' : ¬ f.m < (if f.w = .high then xs[a] * f.b else xs[a]) := by omega
        rw [if_pos h2]
        by_cases h3 : a + 1 < xs.length
        · have g2 : xs[a + 1]? = some xs[a + 1] := List.getElem?_eq_getElem h3
          have hd2 : xs.drop (a + 1) = xs[a + 1] :: xs.drop (a + 1 + 1) := List.drop_eq_getElem_cons h3
          have p2 := inB_0 (hx xs[a + 1] (List.getElem_mem h3))
          show _ ∨ ∃ p w, _ ∧ rd f (.sec u xs[a]) (a + 1) T B (xs.drop (a + 1)) = _
          have hb0 : 0 ≤ f.b := by have := hf.b1; omega
          have hw : 0 ≤ (if f.w = .high then xs[a] * f.b + xs[a + 1] else xs[a + 1] * f.b + xs[a]) := by
            split
            · have := Int.mul_nonneg p1.1 hb0; omega
            · have := Int.mul_nonneg p2.1 hb0; omega
          by_cases h4 : (if f.w = .high then xs[a] * f.b + xs[a + 1] else xs[a + 1] * f.b + xs[a]) ≤ f.m
          · left
            obtain ⟨n, hn⟩ := Int.eq_ofNat_of_zero_le hw
            refine ⟨n, a + 2, ?_, by omega, h3, ?_⟩
            · simp only [if_neg h1, if_neg h2', g2, if_pos h4]; rw [hn]
            · show rd f (.sec u xs[a]) (a + 1) T B (xs.drop (a + 1)) = _
              rw [hd2, rd_cons, step_sec, if_pos h4, hn]; rfl
          · right
            refine ⟨a + 1, "length", ?_, ?_⟩
            · simp only [if_neg h1, if_neg h2', g2, if_neg h4]
            · rw [hd2, rd_cons, step_sec, if_neg h4]; rfl
        · have g2 : xs[a + 1]? = none := List.getElem?_eq_none (by omega)
          have hd2 : xs.drop (a + 1) = [] := List.drop_eq_nil_iff.mpr (by omega)
          right
          refine ⟨xs.length, "short", ?_, ?_⟩
          · simp only [if_neg h1, if_neg h2', g2]
          · show rd f (.sec u xs[a]) (a + 1) T B (xs.drop (a + 1)) = _
            have e : a + 1 = xs.length := by omega
            rw [hd2, e]; rfl
      · have h2' : f.m < (if f.w = .high then xs[a] * f.b else xs[a]) := by omega
        right
        refine ⟨a, "length", ?_, ?_⟩
        · simp only [if_neg h1, if_pos h2']
        · rw [if_neg h2]; rfl
  · have e : a = xs.length := by omega
    have g1 : xs[a]? = none := List.getElem?_eq_none (by omega)
    have hd : xs.drop a = [] := List.drop_eq_nil_iff.mpr (by omega)
    right
    refine ⟨xs.length, "short", ?_, ?_⟩
    · unfold longS; rw [g1]
    · rw [hd, ← e]; rfl
/-- a chunk -/
theorem rd_chunk (f : Fm) (hf : f.Ok) (xs : List Int) (hx : ∀ x ∈ xs, inB f.b x = true) (u : U) (a : Nat) (ha : a ≤ xs.length) (T : List (Int × List Int)) (B : List Nat) :
    (∃ ys p, chunkS f xs a u = .ok ys p ∧ a < p ∧ p ≤ xs.length ∧ ys.length ≤ p ∧ (∀ y ∈ ys, inB f.b y = true) ∧ rd f (.len u) a T B (xs.drop a) = rd f .tag p (tellN u T ys) (blN u (p - ys.length) B ys.length) (xs.drop p)) ∨
    (∃ p w, chunkS f xs a u = .bad p w ∧ rd f (.len u) a T B (xs.drop a) = .bad p w) := by
  unfold chunkS
  rcases rd_long f hf xs hx u a ha T B with ⟨n, p, e1, l1, l2, e2⟩ | ⟨p, w, e1, e2⟩
  · rw [e1, e2]
    simp only [Int.toNat_natCast]
    have hdl : (xs.drop p).length = xs.length - p := List.length_drop ..
    by_cases h1 : xs.length < p + n
    · rw [if_pos h1]
      right
      refine ⟨xs.length, "short", rfl, ?_⟩
      rw [rd_chunk_short f u (xs.drop p) n p T B (by omega), hdl]
      congr 1
      omega
    · rw [if_neg h1]
      have hin : ∀ y ∈ (xs.drop p).take n, inB f.b y = true := fun y hy => hx y (List.mem_of_mem_drop (List.mem_of_mem_take hy))
      have hys : ((xs.drop p).take n).length = n := by rw [List.length_take]; omega
      rw [rd_chunk_full f u (xs.drop p) n p T B (by omega), List.drop_drop]
      by_cases hu : u = .check
      · subst hu
        simp only [ne_eq, not_true_eq_false, if_false, if_true]
        by_cases h2 : p + n < xs.length
        · have g : xs[p + n]? = some xs[p + n] := List.getElem?_eq_getElem h2
          have hdn : xs.drop (p + n) = xs[p + n] :: xs.drop (p + n + 1) := List.drop_eq_getElem_cons h2
          have ht : totS f .check ((xs.drop p).take n) = ((xs.drop p).take n).sum % f.b := rfl
          rw [g, hdn, rd_cons, step_sum, ht]
          simp only []
          by_cases h4 : xs[p + n] = ((xs.drop p).take n).sum % f.b
          · left
            refine ⟨(xs.drop p).take n, p + n + 1, by rw [if_pos h4], by omega, h2, by omega, hin, ?_⟩
            rw [if_pos h4]
            rfl
          · right
            refine ⟨p + n, "check", by rw [if_neg h4], ?_⟩
            rw [if_neg h4]
            rfl
        · have g : xs[p + n]? = none := List.getElem?_eq_none (by omega)
          have hdn : xs.drop (p + n) = [] := List.drop_eq_nil_iff.mpr (by omega)
          rw [g, hdn, rd_nil]
          right
          refine ⟨xs.length, "short", rfl, ?_⟩
          have e : p + n = xs.length := by omega
          rw [e]
          rfl
      · left
        refine ⟨(xs.drop p).take n, p + n, by rw [if_pos hu], by omega, by omega, by omega, hin, ?_⟩
        rw [if_neg hu, hys]
        have e : p + n - n = p := by omega
        rw [e]
  · right
    rw [e1]
    exact ⟨p, w, rfl, e2⟩
theorem rd_room (f : Fm) : ∀ (r : List Int) (p : Nat) (T : List (Int × List Int)) (B : List Nat), rd f .room p T B r = .ok T (B ++ List.range' p r.length)
  | [], p, T, B => by rw [rd_nil]; simp [endS]
  | x :: r, p, T, B => by
    rw [rd_cons]
    show rd f .room (p + 1) T (B ++ [p]) r = _
    rw [rd_room f r (p + 1) T (B ++ [p]), List.length_cons, List.range'_succ]
    simp
end EV.Law
set_option linter.all false
set_option maxRecDepth 100000
namespace EV.Law
open PySem EV
/-! ### _law_reading, exactly -/
def chV (c : Int × List Int) : PV := .tup [.int c.1, sg c.2]
def natV (n : Nat) : PV := .int (n : Int)
def R.pv : R → PV
  | .ok T B => .tup [.tup (T.map chV), .lst (B.map natV), .non]
  | .bad p w => .tup [.non, .non, .tup [.int (p : Int), .str w]]
theorem range2x (lo hi : Nat) (h1 : lo ≤ hi) (h2 : hi ≤ 1000000) : rangeItems [.int (lo : Int), .int (hi : Int)] = some ((List.range' lo (hi - lo)).map natV) := by
  have c : (-(2 ^ 62) ≤ (lo : Int) ∧ (lo : Int) < 2 ^ 62) ∧ (-(2 ^ 62) ≤ (hi : Int) ∧ (hi : Int) < 2 ^ 62) := by omega
  unfold rangeItems
  simp only [if_pos c]
  have e : ((hi : Int) - (lo : Int)).toNat = hi - lo := by omega
  rw [e, List.range'_eq_map_range, List.map_map]
  refine congrArg some (List.map_congr_left fun k _ => ?_)
  show PV.int ((lo : Int) + (k : Nat)) = PV.int ((lo + k : Nat) : Int)
  congr 1
def rBody : List Sm := [.ite (.cmp .ge (.var 2) (.bi .len [(.ref, (.var 1))]))
       [.ret (.tup [(.val, (.lit .non)), (.val, (.lit .non)), (.val, (.tup [(.val, (.bi .len [(.ref, (.var 1))])), (.val, (.lit (.str "short")))]))])]
       [],
     .ite (.cmp .is (.idx (.idx (.var 0) (.lit (.int 1))) (.var 2)) (.lit .non))
       [.app 5 (.var 2)]
       [.ite (.cmp .ne (.idx (.idx (.var 0) (.lit (.int 1))) (.var 2)) (.idx (.var 1) (.var 2)))
          [.ret (.tup [(.val, (.lit .non)), (.val, (.lit .non)), (.val, (.tup [(.val, (.var 2)), (.val, (.lit (.str "head")))]))])]
          []]]
def RE (f : Fm) (xs : List Int) (o : Option PV) (bl : List Nat) : Env := [.fz f.pv, .fz (sg xs), sl o, .un, .ow (.lst []), .ow (.lst (bl.map natV)), .un, .un, .un, .un, .un]
theorem r_end (k : Nat) (f : Fm) (xs : List Int) (p : Nat) (o : Option PV) (bl : List Nat) (h : xs.length ≤ p) : fT G (evCl G F k) (.name 2) rBody (.int (p : Int)) (RE f xs o bl) = some (.rt (.fz (R.pv (.bad xs.length "short"))), RE f xs (some (.int (p : Int))) bl) := by
  have c1 : (xs.length : Int) ≤ (p : Int) := by omega
  cases o <;> simp [h, c1, fT, rBody, RE, fn_eq, startE, slotOf, q_nil, q_cons, th_nx, th_rt, th_br, th_ct, th_if, s_asgN, s_asgT, s_par, p_nil, p_cons, s_expr, s_ret, s_retN, s_ite, s_setIdx, s_app, setAt, appTo, x_lit, x_glo, x_var, x_tup, x_lst, x_bin, x_neg, x_cmp, x_chain, x_ands, x_ors, x_and1, x_or1, andK_bl, orK_bl, x_and2, x_or2, x_not, x_ite, x_idx, sliceOf, x_slc, x_call, x_callK, x_bi, x_isi, x_rng1, x_rng2, a_nil, a_val, a_ref, k_nil, k_cons, o_none, o_some, val_fz, val_fr, d_slot, d_val, ds_nil, ds_cons, t_some, bw, use, peek, put, modify, truthy, isStr, avGet, avPut, slots, vals?, cmpOp, ords, isIt, isNon, within, b_add, b_sub, b_catT, b_catL, bias, biEv, tyOf, flRv, finE, mkSeq, PV.int?, PV.seq?, PV.lst?, ints?, bindP, bindPs, rangeItems, pick, eo_ii, eo_ss, eo_bb, eo_sn, eo_in, eo_ni, eo_ns, eo_nn, pq_ii, pq_ss, pq_bb, pq_in, pq_ni, pq_sn, pq_ns, pq_nn, sl, sg, LIM, R.pv]
set_option maxHeartbeats 4000000 in
theorem r_turn (k : Nat) (f : Fm) (xs : List Int) (p : Nat) (o : Option PV) (bl : List Nat) (T : List (Int × List Int)) (r : List Int) (h : p < xs.length) (hp : p < f.hd.length) (hbl : bl.length < 16777216) :
    (∃ bl', fT G (evCl G F k) (.name 2) rBody (.int (p : Int)) (RE f xs o bl) = some (.nx, RE f xs (some (.int (p : Int))) bl') ∧ bl'.length ≤ bl.length + 1 ∧ rd f (.head p) p T bl (xs[p] :: r) = rd f (stK f (p + 1)) (p + 1) T bl' r) ∨
    (fT G (evCl G F k) (.name 2) rBody (.int (p : Int)) (RE f xs o bl) = some (.rt (.fz (R.pv (.bad p "head"))), RE f xs (some (.int (p : Int))) bl) ∧ rd f (.head p) p T bl (xs[p] :: r) = .bad p "head") := by
  have c1 : ¬ (xs.length : Int) ≤ (p : Int) := by omega
  have c2 : ¬ xs.length ≤ p := by omega
  have g1 : f.hd[p]? = some f.hd[p] := List.getElem?_eq_getElem hp
  have i1 : ixN 6 1 = some 1 := rfl
  have hs := step_headE f p xs[p]
  have hk : lookS f (.head p) = (match f.hd[p]? with
    | some (some _) => true
    | _ => false) := rfl
  generalize hm : f.hd[p] = m at g1
  generalize hx : xs[p] = x at hs ⊢
  rw [g1] at hs hk
  cases m with
  | none =>
    left
    refine ⟨bl ++ [p], ?_, by simp, ?_⟩
    · cases o <;> simp [c1, c2, fT, rBody, RE, fn_eq, startE, slotOf, q_nil, q_cons, th_nx, th_rt, th_br, th_ct, th_if, s_asgN, s_asgT, s_par, p_nil, p_cons, s_expr, s_ret, s_retN, s_ite, s_setIdx, s_app, setAt, appTo, x_lit, x_glo, x_var, x_tup, x_lst, x_bin, x_neg, x_cmp, x_chain, x_ands, x_ors, x_and1, x_or1, andK_bl, orK_bl, x_and2, x_or2, x_not, x_ite, x_idx, sliceOf, x_slc, x_call, x_callK, x_bi, x_isi, x_rng1, x_rng2, a_nil, a_val, a_ref, k_nil, k_cons, o_none, o_some, val_fz, val_fr, d_slot, d_val, ds_nil, ds_cons, t_some, bw, use, peek, put, modify, truthy, isStr, avGet, avPut, slots, vals?, cmpOp, ords, isIt, isNon, within, b_add, b_sub, b_catT, b_catL, bias, biEv, tyOf, flRv, finE, mkSeq, PV.int?, PV.seq?, PV.lst?, ints?, bindP, bindPs, rangeItems, pick, eo_ii, eo_ss, eo_bb, eo_sn, eo_in, eo_ni, eo_ns, eo_nn, pq_ii, pq_ss, pq_bb, pq_in, pq_ni, pq_sn, pq_ns, pq_nn, sl, Fm.pv, sg, ix_nat, i1, h, hp, g1, hm, hx, mkO, hbl, LIM, natV]
    · have hs : stepS f (.head p) x = some (stK f (p + 1)) := hs
      have hk : lookS f (.head p) = false := hk
      rw [rd_step hs, hk]
      rfl
  | some i =>
    have hk : lookS f (.head p) = true := hk
    have hs : stepS f (.head p) x = if i = x then some (stK f (p + 1)) else none := hs
    by_cases hi : i = x
    · rw [if_pos hi] at hs
      left
      refine ⟨bl, ?_, by omega, by rw [rd_step hs, hk]; rfl⟩
      cases o <;> simp [c1, c2, fT, rBody, RE, fn_eq, startE, slotOf, q_nil, q_cons, th_nx, th_rt, th_br, th_ct, th_if, s_asgN, s_asgT, s_par, p_nil, p_cons, s_expr, s_ret, s_retN, s_ite, s_setIdx, s_app, setAt, appTo, x_lit, x_glo, x_var, x_tup, x_lst, x_bin, x_neg, x_cmp, x_chain, x_ands, x_ors, x_and1, x_or1, andK_bl, orK_bl, x_and2, x_or2, x_not, x_ite, x_idx, sliceOf, x_slc, x_call, x_callK, x_bi, x_isi, x_rng1, x_rng2, a_nil, a_val, a_ref, k_nil, k_cons, o_none, o_some, val_fz, val_fr, d_slot, d_val, ds_nil, ds_cons, t_some, bw, use, peek, put, modify, truthy, isStr, avGet, avPut, slots, vals?, cmpOp, ords, isIt, isNon, within, b_add, b_sub, b_catT, b_catL, bias, biEv, tyOf, flRv, finE, mkSeq, PV.int?, PV.seq?, PV.lst?, ints?, bindP, bindPs, rangeItems, pick, eo_ii, eo_ss, eo_bb, eo_sn, eo_in, eo_ni, eo_ns, eo_nn, pq_ii, pq_ss, pq_bb, pq_in, pq_ni, pq_sn, pq_ns, pq_nn, sl, Fm.pv, sg, ix_nat, i1, h, hp, g1, hm, hx, mkO, hi, natV]
    · rw [if_neg hi] at hs
      right
      refine ⟨?_, by rw [rd_stop hs]; rfl⟩
      cases o <;> simp [c1, c2, fT, rBody, RE, fn_eq, startE, slotOf, q_nil, q_cons, th_nx, th_rt, th_br, th_ct, th_if, s_asgN, s_asgT, s_par, p_nil, p_cons, s_expr, s_ret, s_retN, s_ite, s_setIdx, s_app, setAt, appTo, x_lit, x_glo, x_var, x_tup, x_lst, x_bin, x_neg, x_cmp, x_chain, x_ands, x_ors, x_and1, x_or1, andK_bl, orK_bl, x_and2, x_or2, x_not, x_ite, x_idx, sliceOf, x_slc, x_call, x_callK, x_bi, x_isi, x_rng1, x_rng2, a_nil, a_val, a_ref, k_nil, k_cons, o_none, o_some, val_fz, val_fr, d_slot, d_val, ds_nil, ds_cons, t_some, bw, use, peek, put, modify, truthy, isStr, avGet, avPut, slots, vals?, cmpOp, ords, isIt, isNon, within, b_add, b_sub, b_catT, b_catL, bias, biEv, tyOf, flRv, finE, mkSeq, PV.int?, PV.seq?, PV.lst?, ints?, bindP, bindPs, rangeItems, pick, eo_ii, eo_ss, eo_bb, eo_sn, eo_in, eo_ni, eo_ns, eo_nn, pq_ii, pq_ss, pq_bb, pq_in, pq_ni, pq_sn, pq_ns, pq_nn, sl, Fm.pv, sg, ix_nat, i1, h, hp, g1, hm, hx, mkO, hi, LIM, R.pv, natV]
theorem r_loop (k : Nat) (f : Fm) (xs : List Int) : ∀ (m p : Nat) (o : Option PV) (bl : List Nat), p + m = f.hd.length → p ≤ xs.length → bl.length ≤ p → p + m ≤ 1000 → 
    ∃ o' bl' fl, forLoop (fT G (evCl G F k) (.name 2) rBody) ((List.range' p m).map fun i => PV.int (i : Nat)) (RE f xs o bl) = some (fl, RE f xs o' bl') ∧
    ((fl = .rt (.fz (R.pv (rd f (stK f p) p [] bl (xs.drop p))))) ∨ (fl = .nx ∧ f.hd.length ≤ xs.length ∧ bl'.length ≤ f.hd.length ∧ rd f (stK f p) p [] bl (xs.drop p) = rd f .tag f.hd.length [] bl' (xs.drop f.hd.length)))
  | 0, p, o, bl, h, hp, hb, _ => by
    have e : p = f.hd.length := by omega
    subst e
    refine ⟨o, bl, .nx, rfl, .inr ⟨rfl, hp, hb, ?_⟩⟩
    unfold stK
    rw [if_neg (Nat.lt_irrefl _)]
  | m + 1, p, o, bl, h, hp, hb, hm => by
    have hpl : p < f.hd.length := by omega
    have est : stK f p = .head p := by unfold stK; rw [if_pos hpl]
    rw [List.range'_succ, List.map_cons, forLoop, est]
    by_cases hx : p < xs.length
    · have hd : xs.drop p = xs[p] :: xs.drop (p + 1) := List.drop_eq_getElem_cons hx
      rw [hd]
      rcases r_turn k f xs p o bl [] (xs.drop (p + 1)) hx hpl (by omega) with ⟨bl', e1, l1, e2⟩ | ⟨e1, e2⟩
      · rw [e1, e2]
        exact r_loop k f xs m (p + 1) (some (.int (p : Int))) bl' (by omega) hx (by omega) (by omega)
      · rw [e1, e2]
        exact ⟨_, _, _, rfl, .inl rfl⟩
    · have hd : xs.drop p = [] := List.drop_eq_nil_iff.mpr (by omega)
      have e : p = xs.length := by omega
      rw [r_end k f xs p o bl (by omega), hd]
      refine ⟨_, _, _, rfl, .inl ?_⟩
      rw [rd_nil, e]
      rfl
def RW_ (f : Fm) (xs : List Int) (o2 : Option PV) (a : Nat) (ct : List (Int × List Int)) (bl : List Nat) (o6 o7 o8 o9 : Option PV) : Env := [.fz f.pv, .fz (sg xs), sl o2, .fz (.int (a : Int)), .ow (.lst (ct.map chV)), .ow (.lst (bl.map natV)), sl o6, sl o7, sl o8, sl o9, .un]
def rW1 : Sm := .asg (.name 6) (.call c_law_use [(.val, (.var 0)), (.val, (.idx (.var 1) (.var 3)))])
def rW2 : Sm := .ite (.cmp .eq (.var 6) (.lit (.str "")))
       [.ret (.tup [(.val, (.lit .non)), (.val, (.lit .non)), (.val, (.tup [(.val, (.var 3)), (.val, (.lit (.str "tag")))]))])]
       []
def rW3 : Sm := .ite (.cmp .eq (.var 6) (.lit (.str "end")))
       [.ret (.tup [(.val, (.bi .tuple [(.ref, (.var 4))])), (.val, (.bin .add (.var 5) (.rng2 false (.bin .add (.var 3) (.lit (.int 1))) (.bi .len [(.ref, (.var 1))])))), (.val, (.lit .non))])]
       []
def rW4 : Sm := .ite (.cmp .eq (.var 6) (.lit (.str "stop")))
       [.asg (.name 7) (.cmp .eq (.bin .add (.var 3) (.lit (.int 1))) (.bi .len [(.ref, (.var 1))])),
        .ret (.ite (.var 7) (.tup [(.val, (.bi .tuple [(.ref, (.var 4))])), (.val, (.var 5)), (.val, (.lit .non))]) (.tup [(.val, (.lit .non)), (.val, (.lit .non)), (.val, (.tup [(.val, (.bin .add (.var 3) (.lit (.int 1)))), (.val, (.lit (.str "behind")))]))]))]
       []
def rW5 : Sm := .asg (.tup [(.name 8), (.name 9)]) (.call c_law_chunk [(.val, (.var 0)), (.val, (.var 1)), (.val, (.bin .add (.var 3) (.lit (.int 1)))), (.val, (.var 6))])
def rW6 : Sm := .ite (.cmp .is (.var 8) (.lit .non))
       [.ret (.tup [(.val, (.lit .non)), (.val, (.lit .non)), (.val, (.var 9))])]
       []
def rW7 : Sm := .ite (.cmp .eq (.var 6) (.lit (.str "skip")))
       [.asg (.name 5) (.bin .add (.var 5) (.rng2 false (.bin .sub (.var 9) (.bi .len [(.ref, (.var 8))])) (.var 9)))]
       [.app 4 (.tup [(.val, (.idx (.var 1) (.var 3))), (.val, (.var 8))])]
def rW8 : Sm := .asg (.name 3) (.var 9)
def rW : List Sm := [rW1, rW2, rW3, rW4, rW5, rW6, rW7, rW8]
theorem rw_1 (k : Nat) (f : Fm) (xs : List Int) (o2 : Option PV) (a : Nat) (ct : List (Int × List Int)) (bl : List Nat) (o6 o7 o8 o9 : Option PV) (h : a < xs.length) : evS G (evCl G F (k + 1)) rW1 (RW_ f xs o2 a ct bl o6 o7 o8 o9) = some (.nx, RW_ f xs o2 a ct bl (some (.str (luse f xs[a]))) o7 o8 o9) := by
  have g1 : xs[a]? = some xs[a] := List.getElem?_eq_getElem h
  generalize hx : xs[a] = x at g1 ⊢
  cases o6 <;> simp [rW1, RW_, fn_eq, startE, slotOf, q_nil, q_cons, th_nx, th_rt, th_br, th_ct, th_if, s_asgN, s_asgT, s_par, p_nil, p_cons, s_expr, s_ret, s_retN, s_ite, s_setIdx, s_app, setAt, appTo, x_lit, x_glo, x_var, x_tup, x_lst, x_bin, x_neg, x_cmp, x_chain, x_ands, x_ors, x_and1, x_or1, andK_bl, orK_bl, x_and2, x_or2, x_not, x_ite, x_idx, sliceOf, x_slc, x_call, x_callK, x_bi, x_isi, x_rng1, x_rng2, a_nil, a_val, a_ref, k_nil, k_cons, o_none, o_some, val_fz, val_fr, d_slot, d_val, ds_nil, ds_cons, t_some, bw, use, peek, put, modify, truthy, isStr, avGet, avPut, slots, vals?, cmpOp, ords, isIt, isNon, within, b_add, b_sub, b_catT, b_catL, bias, biEv, tyOf, flRv, finE, mkSeq, PV.int?, PV.seq?, PV.lst?, ints?, bindP, bindPs, rangeItems, pick, eo_ii, eo_ss, eo_bb, eo_sn, eo_in, eo_ni, eo_ns, eo_nn, pq_ii, pq_ss, pq_bb, pq_in, pq_ni, pq_sn, pq_ns, pq_nn, sl, sg, ix_nat, h, hx, g1, e_law_use]
theorem rw_2n (C : Cl) (f : Fm) (xs : List Int) (o2 : Option PV) (a : Nat) (ct : List (Int × List Int)) (bl : List Nat) (o7 o8 o9 : Option PV) : evS G C rW2 (RW_ f xs o2 a ct bl (some (.str "")) o7 o8 o9) = some (.rt (.fz (R.pv (.bad a "tag"))), RW_ f xs o2 a ct bl (some (.str "")) o7 o8 o9) := by
  simp [rW2, RW_, fn_eq, startE, slotOf, q_nil, q_cons, th_nx, th_rt, th_br, th_ct, th_if, s_asgN, s_asgT, s_par, p_nil, p_cons, s_expr, s_ret, s_retN, s_ite, s_setIdx, s_app, setAt, appTo, x_lit, x_glo, x_var, x_tup, x_lst, x_bin, x_neg, x_cmp, x_chain, x_ands, x_ors, x_and1, x_or1, andK_bl, orK_bl, x_and2, x_or2, x_not, x_ite, x_idx, sliceOf, x_slc, x_call, x_callK, x_bi, x_isi, x_rng1, x_rng2, a_nil, a_val, a_ref, k_nil, k_cons, o_none, o_some, val_fz, val_fr, d_slot, d_val, ds_nil, ds_cons, t_some, bw, use, peek, put, modify, truthy, isStr, avGet, avPut, slots, vals?, cmpOp, ords, isIt, isNon, within, b_add, b_sub, b_catT, b_catL, bias, biEv, tyOf, flRv, finE, mkSeq, PV.int?, PV.seq?, PV.lst?, ints?, bindP, bindPs, rangeItems, pick, eo_ii, eo_ss, eo_bb, eo_sn, eo_in, eo_ni, eo_ns, eo_nn, pq_ii, pq_ss, pq_bb, pq_in, pq_ni, pq_sn, pq_ns, pq_nn, sl, LIM, R.pv]
theorem rw_2 (C : Cl) (f : Fm) (xs : List Int) (o2 : Option PV) (a : Nat) (ct : List (Int × List Int)) (bl : List Nat) (u : U) (o7 o8 o9 : Option PV) : evS G C rW2 (RW_ f xs o2 a ct bl (some (.str u.str)) o7 o8 o9) = some (.nx, RW_ f xs o2 a ct bl (some (.str u.str)) o7 o8 o9) := by
  cases u <;> simp (decide := true) [rW2, RW_, fn_eq, startE, slotOf, q_nil, q_cons, th_nx, th_rt, th_br, th_ct, th_if, s_asgN, s_asgT, s_par, p_nil, p_cons, s_expr, s_ret, s_retN, s_ite, s_setIdx, s_app, setAt, appTo, x_lit, x_glo, x_var, x_tup, x_lst, x_bin, x_neg, x_cmp, x_chain, x_ands, x_ors, x_and1, x_or1, andK_bl, orK_bl, x_and2, x_or2, x_not, x_ite, x_idx, sliceOf, x_slc, x_call, x_callK, x_bi, x_isi, x_rng1, x_rng2, a_nil, a_val, a_ref, k_nil, k_cons, o_none, o_some, val_fz, val_fr, d_slot, d_val, ds_nil, ds_cons, t_some, bw, use, peek, put, modify, truthy, isStr, avGet, avPut, slots, vals?, cmpOp, ords, isIt, isNon, within, b_add, b_sub, b_catT, b_catL, bias, biEv, tyOf, flRv, finE, mkSeq, PV.int?, PV.seq?, PV.lst?, ints?, bindP, bindPs, rangeItems, pick, eo_ii, eo_ss, eo_bb, eo_sn, eo_in, eo_ni, eo_ns, eo_nn, pq_ii, pq_ss, pq_bb, pq_in, pq_ni, pq_sn, pq_ns, pq_nn, sl, LIM, U.str]
theorem rw_3 (C : Cl) (f : Fm) (xs : List Int) (o2 : Option PV) (a : Nat) (ct : List (Int × List Int)) (bl : List Nat) (u : U) (hu : u ≠ .fin) (o7 o8 o9 : Option PV) : evS G C rW3 (RW_ f xs o2 a ct bl (some (.str u.str)) o7 o8 o9) = some (.nx, RW_ f xs o2 a ct bl (some (.str u.str)) o7 o8 o9) := by
  cases u <;> first | exact absurd rfl hu | simp (decide := true) [rW3, RW_, fn_eq, startE, slotOf, q_nil, q_cons, th_nx, th_rt, th_br, th_ct, th_if, s_asgN, s_asgT, s_par, p_nil, p_cons, s_expr, s_ret, s_retN, s_ite, s_setIdx, s_app, setAt, appTo, x_lit, x_glo, x_var, x_tup, x_lst, x_bin, x_neg, x_cmp, x_chain, x_ands, x_ors, x_and1, x_or1, andK_bl, orK_bl, x_and2, x_or2, x_not, x_ite, x_idx, sliceOf, x_slc, x_call, x_callK, x_bi, x_isi, x_rng1, x_rng2, a_nil, a_val, a_ref, k_nil, k_cons, o_none, o_some, val_fz, val_fr, d_slot, d_val, ds_nil, ds_cons, t_some, bw, use, peek, put, modify, truthy, isStr, avGet, avPut, slots, vals?, cmpOp, ords, isIt, isNon, within, b_add, b_sub, b_catT, b_catL, bias, biEv, tyOf, flRv, finE, mkSeq, PV.int?, PV.seq?, PV.lst?, ints?, bindP, bindPs, rangeItems, pick, eo_ii, eo_ss, eo_bb, eo_sn, eo_in, eo_ni, eo_ns, eo_nn, pq_ii, pq_ss, pq_bb, pq_in, pq_ni, pq_sn, pq_ns, pq_nn, sl, LIM, U.str]
theorem rw_4 (C : Cl) (f : Fm) (xs : List Int) (o2 : Option PV) (a : Nat) (ct : List (Int × List Int)) (bl : List Nat) (u : U) (hu : u ≠ .stop) (o7 o8 o9 : Option PV) : evS G C rW4 (RW_ f xs o2 a ct bl (some (.str u.str)) o7 o8 o9) = some (.nx, RW_ f xs o2 a ct bl (some (.str u.str)) o7 o8 o9) := by
  cases u <;> first | exact absurd rfl hu | simp (decide := true) [rW4, RW_, fn_eq, startE, slotOf, q_nil, q_cons, th_nx, th_rt, th_br, th_ct, th_if, s_asgN, s_asgT, s_par, p_nil, p_cons, s_expr, s_ret, s_retN, s_ite, s_setIdx, s_app, setAt, appTo, x_lit, x_glo, x_var, x_tup, x_lst, x_bin, x_neg, x_cmp, x_chain, x_ands, x_ors, x_and1, x_or1, andK_bl, orK_bl, x_and2, x_or2, x_not, x_ite, x_idx, sliceOf, x_slc, x_call, x_callK, x_bi, x_isi, x_rng1, x_rng2, a_nil, a_val, a_ref, k_nil, k_cons, o_none, o_some, val_fz, val_fr, d_slot, d_val, ds_nil, ds_cons, t_some, bw, use, peek, put, modify, truthy, isStr, avGet, avPut, slots, vals?, cmpOp, ords, isIt, isNon, within, b_add, b_sub, b_catT, b_catL, bias, biEv, tyOf, flRv, finE, mkSeq, PV.int?, PV.seq?, PV.lst?, ints?, bindP, bindPs, rangeItems, pick, eo_ii, eo_ss, eo_bb, eo_sn, eo_in, eo_ni, eo_ns, eo_nn, pq_ii, pq_ss, pq_bb, pq_in, pq_ni, pq_sn, pq_ns, pq_nn, sl, LIM, U.str]
theorem rw_3n (C : Cl) (f : Fm) (xs : List Int) (o2 : Option PV) (a : Nat) (ct : List (Int × List Int)) (bl : List Nat) (o7 o8 o9 : Option PV) (h : a < xs.length) (hl : xs.length ≤ 100000) (hb : bl.length ≤ 100000) : evS G C rW3 (RW_ f xs o2 a ct bl (some (.str U.fin.str)) o7 o8 o9) = some (.rt (.fz (R.pv (.ok ct (bl ++ List.range' (a + 1) (xs.length - (a + 1)))))), RW_ f xs o2 a ct bl (some (.str U.fin.str)) o7 o8 o9) := by
  have hL := range2x (a + 1) xs.length (by omega) (by omega)
  have ea : ((a + 1 : Nat) : Int) = (a : Int) + 1 := by omega
  rw [ea] at hL
  generalize hLL : List.range' (a + 1) (xs.length - (a + 1)) = L at hL ⊢
  have hlen : L.length = xs.length - (a + 1) := by rw [← hLL, List.length_range']
  have c1 : (L.map natV).length ≤ LIM := by rw [List.length_map]; unfold LIM; omega
  have c2 : (bl.map natV).length + (L.map natV).length ≤ LIM := by rw [List.length_map, List.length_map]; unfold LIM; omega
  generalize hρ : RW_ f xs o2 a ct bl (some (.str U.fin.str)) o7 o8 o9 = ρ
  have ht : tst (evE G C (.cmp .eq (.var 6) (.lit (.str "end"))) ρ) = some (true, ρ) := by subst hρ; rfl
  have e1 : evE G C (.bin .add (.var 3) (.lit (.int 1))) ρ = some (.fz (.int ((a : Int) + 1)), ρ) := by subst hρ; rfl
  have e2 : evE G C (.bi .len [(.ref, (.var 1))]) ρ = some (.fz (.int (xs.length : Int)), ρ) := by
    have e0 : evE G C (.bi .len [(.ref, (.var 1))]) ρ = some (.fz (.int ((xs.map PV.int).length : Int)), ρ) := by subst hρ; rfl
    rw [e0, List.length_map]
  have hr : evE G C (.rng2 false (.bin .add (.var 3) (.lit (.int 1))) (.bi .len [(.ref, (.var 1))])) ρ = some (.fr (.lst (L.map natV)), ρ) := by
    rw [x_rng2, e1, Option.bind_some, e2, Option.bind_some, val_fz, val_fz, hL, Option.bind_some]
    unfold mkSeq
    rw [if_pos c1]
    rfl
  have hs : bw (.var 5) (evE G C (.var 5) ρ) ρ = some (.slot 5, ρ) := by subst hρ; rfl
  have hp : peek 5 ρ = some (.lst (bl.map natV)) := by subst hρ; rfl
  have ha : evE G C (.bin .add (.var 5) (.rng2 false (.bin .add (.var 3) (.lit (.int 1))) (.bi .len [(.ref, (.var 1))]))) ρ = some (.fr (.lst (bl.map natV ++ L.map natV)), ρ) := bin_evV (i := 5) hs hp hr rfl (by rw [val_fr, b_catL, if_pos c2])
  have h4 : evE G C (.bi .tuple [(.ref, (.var 4))]) ρ = some (.fz (.tup (ct.map chV)), ρ) := by subst hρ; rfl
  have hn : evE G C (.lit .non) ρ = some (.fz .non, ρ) := rfl
  have hv : vals? [Bw.val (.tup (ct.map chV)), .val (.lst (bl.map natV ++ L.map natV)), .val .non] = some [.tup (ct.map chV), .lst (bl.map natV ++ L.map natV), .non] := rfl
  have hret : evE G C (.tup [(.val, (.bi .tuple [(.ref, (.var 4))])), (.val, (.bin .add (.var 5) (.rng2 false (.bin .add (.var 3) (.lit (.int 1))) (.bi .len [(.ref, (.var 1))])))), (.val, (.lit .non))]) ρ = some (.fz (.tup [.tup (ct.map chV), .lst (bl.map natV ++ L.map natV), .non]), ρ) := by
    rw [x_tup, a_val, h4, Option.bind_some, a_val, ha, Option.bind_some, a_val, hn, Option.bind_some, a_nil, Option.map_some, Option.map_some, Option.map_some, Option.bind_some]
    show (vals? [Bw.val (.tup (ct.map chV)), .val (.lst (bl.map natV ++ L.map natV)), .val .non]).bind _ = _
    rw [hv, Option.bind_some, if_pos (by show 3 ≤ LIM; decide)]
  rw [rW3, s_ite, ht, Option.bind_some, if_pos rfl, q_cons, s_ret, hret, Option.map_some, th_rt]
  rw [R.pv, List.map_append]
theorem rw_4n (C : Cl) (f : Fm) (xs : List Int) (o2 : Option PV) (a : Nat) (ct : List (Int × List Int)) (bl : List Nat) (o7 o8 o9 : Option PV) : ∃ ρ', evS G C rW4 (RW_ f xs o2 a ct bl (some (.str U.stop.str)) o7 o8 o9) = some (.rt (.fz (R.pv (if a + 1 = xs.length then .ok ct bl else .bad (a + 1) "behind"))), .fz f.pv :: .fz (sg xs) :: ρ') := by
  have ec : ((a : Int) + 1) = ((a + 1 : Nat) : Int) := by omega
  by_cases h : a + 1 = xs.length
  · have c1 : (a : Int) + 1 = (xs.length : Int) := by omega
    rw [if_pos h]
    cases o7 <;> exact ⟨_, by simp (decide := true) [rW4, RW_, fn_eq, startE, slotOf, q_nil, q_cons, th_nx, th_rt, th_br, th_ct, th_if, s_asgN, s_asgT, s_par, p_nil, p_cons, s_expr, s_ret, s_retN, s_ite, s_setIdx, s_app, setAt, appTo, x_lit, x_glo, x_var, x_tup, x_lst, x_bin, x_neg, x_cmp, x_chain, x_ands, x_ors, x_and1, x_or1, andK_bl, orK_bl, x_and2, x_or2, x_not, x_ite, x_idx, sliceOf, x_slc, x_call, x_callK, x_bi, x_isi, x_rng1, x_rng2, a_nil, a_val, a_ref, k_nil, k_cons, o_none, o_some, val_fz, val_fr, d_slot, d_val, ds_nil, ds_cons, t_some, bw, use, peek, put, modify, truthy, isStr, avGet, avPut, slots, vals?, cmpOp, ords, isIt, isNon, within, b_add, b_sub, b_catT, b_catL, bias, biEv, tyOf, flRv, finE, mkSeq, PV.int?, PV.seq?, PV.lst?, ints?, bindP, bindPs, rangeItems, pick, eo_ii, eo_ss, eo_bb, eo_sn, eo_in, eo_ni, eo_ns, eo_nn, pq_ii, pq_ss, pq_bb, pq_in, pq_ni, pq_sn, pq_ns, pq_nn, sl, sg, c1, h, LIM, U.str, R.pv]; rfl⟩
  · have c1 : ¬ (a : Int) + 1 = (xs.length : Int) := by omega
    rw [if_neg h, R.pv, ← ec]
    cases o7 <;> exact ⟨_, by simp (decide := true) [rW4, RW_, fn_eq, startE, slotOf, q_nil, q_cons, th_nx, th_rt, th_br, th_ct, th_if, s_asgN, s_asgT, s_par, p_nil, p_cons, s_expr, s_ret, s_retN, s_ite, s_setIdx, s_app, setAt, appTo, x_lit, x_glo, x_var, x_tup, x_lst, x_bin, x_neg, x_cmp, x_chain, x_ands, x_ors, x_and1, x_or1, andK_bl, orK_bl, x_and2, x_or2, x_not, x_ite, x_idx, sliceOf, x_slc, x_call, x_callK, x_bi, x_isi, x_rng1, x_rng2, a_nil, a_val, a_ref, k_nil, k_cons, o_none, o_some, val_fz, val_fr, d_slot, d_val, ds_nil, ds_cons, t_some, bw, use, peek, put, modify, truthy, isStr, avGet, avPut, slots, vals?, cmpOp, ords, isIt, isNon, within, b_add, b_sub, b_catT, b_catL, bias, biEv, tyOf, flRv, finE, mkSeq, PV.int?, PV.seq?, PV.lst?, ints?, bindP, bindPs, rangeItems, pick, eo_ii, eo_ss, eo_bb, eo_sn, eo_in, eo_ni, eo_ns, eo_nn, pq_ii, pq_ss, pq_bb, pq_in, pq_ni, pq_sn, pq_ns, pq_nn, sl, sg, c1, h, LIM, U.str]; rfl⟩
def crV : CR → PV × PV
  | .ok ys p => (sg ys, .int (p : Int))
  | .bad p w => (.non, .tup [.int (p : Int), .str w])
theorem rw_5 (k : Nat) (f : Fm) (hf : f.Ok) (xs : List Int) (hx : ∀ x ∈ xs, inB f.b x = true) (o2 : Option PV) (a : Nat) (ha : a + 1 ≤ xs.length) (ct : List (Int × List Int)) (bl : List Nat) (u : U) (o7 o8 o9 : Option PV) : evS G (evCl G F (k + 2)) rW5 (RW_ f xs o2 a ct bl (some (.str u.str)) o7 o8 o9) = some (.nx, RW_ f xs o2 a ct bl (some (.str u.str)) o7 (some (crV (chunkS f xs (a + 1) u)).1) (some (crV (chunkS f xs (a + 1) u)).2)) := by
  have hg := e_law_chunk k f hf xs hx (a + 1) ha u
  have hc : ((a : Int) + 1) = ((a + 1 : Nat) : Int) := by omega
  have hp : (chunkS f xs (a + 1) u).pv = .tup [(crV (chunkS f xs (a + 1) u)).1, (crV (chunkS f xs (a + 1) u)).2] := by
    cases chunkS f xs (a + 1) u <;> rfl
  rw [hp, ← hc] at hg
  generalize (crV (chunkS f xs (a + 1) u)).1 = z1 at hg ⊢
  generalize (crV (chunkS f xs (a + 1) u)).2 = z2 at hg ⊢
  generalize evCl G F (k + 2) = C at hg ⊢
  cases o8 <;> cases o9 <;> simp [rW5, RW_, fn_eq, startE, slotOf, q_nil, q_cons, th_nx, th_rt, th_br, th_ct, th_if, s_asgN, s_asgT, s_par, p_nil, p_cons, s_expr, s_ret, s_retN, s_ite, s_setIdx, s_app, setAt, appTo, x_lit, x_glo, x_var, x_tup, x_lst, x_bin, x_neg, x_cmp, x_chain, x_ands, x_ors, x_and1, x_or1, andK_bl, orK_bl, x_and2, x_or2, x_not, x_ite, x_idx, sliceOf, x_slc, x_call, x_callK, x_bi, x_isi, x_rng1, x_rng2, a_nil, a_val, a_ref, k_nil, k_cons, o_none, o_some, val_fz, val_fr, d_slot, d_val, ds_nil, ds_cons, t_some, bw, use, peek, put, modify, truthy, isStr, avGet, avPut, slots, vals?, cmpOp, ords, isIt, isNon, within, b_add, b_sub, b_catT, b_catL, bias, biEv, tyOf, flRv, finE, mkSeq, PV.int?, PV.seq?, PV.lst?, ints?, bindP, bindPs, rangeItems, pick, eo_ii, eo_ss, eo_bb, eo_sn, eo_in, eo_ni, eo_ns, eo_nn, pq_ii, pq_ss, pq_bb, pq_in, pq_ni, pq_sn, pq_ns, pq_nn, sl, hg]
theorem rw_6b (C : Cl) (f : Fm) (xs : List Int) (o2 : Option PV) (a : Nat) (ct : List (Int × List Int)) (bl : List Nat) (o6 o7 : Option PV) (p : Nat) (w : Str) : evS G C rW6 (RW_ f xs o2 a ct bl o6 o7 (some .non) (some (.tup [.int (p : Int), .str w]))) = some (.rt (.fz (R.pv (.bad p w))), RW_ f xs o2 a ct bl o6 o7 (some .non) (some (.tup [.int (p : Int), .str w]))) := by
  simp [rW6, RW_, fn_eq, startE, slotOf, q_nil, q_cons, th_nx, th_rt, th_br, th_ct, th_if, s_asgN, s_asgT, s_par, p_nil, p_cons, s_expr, s_ret, s_retN, s_ite, s_setIdx, s_app, setAt, appTo, x_lit, x_glo, x_var, x_tup, x_lst, x_bin, x_neg, x_cmp, x_chain, x_ands, x_ors, x_and1, x_or1, andK_bl, orK_bl, x_and2, x_or2, x_not, x_ite, x_idx, sliceOf, x_slc, x_call, x_callK, x_bi, x_isi, x_rng1, x_rng2, a_nil, a_val, a_ref, k_nil, k_cons, o_none, o_some, val_fz, val_fr, d_slot, d_val, ds_nil, ds_cons, t_some, bw, use, peek, put, modify, truthy, isStr, avGet, avPut, slots, vals?, cmpOp, ords, isIt, isNon, within, b_add, b_sub, b_catT, b_catL, bias, biEv, tyOf, flRv, finE, mkSeq, PV.int?, PV.seq?, PV.lst?, ints?, bindP, bindPs, rangeItems, pick, eo_ii, eo_ss, eo_bb, eo_sn, eo_in, eo_ni, eo_ns, eo_nn, pq_ii, pq_ss, pq_bb, pq_in, pq_ni, pq_sn, pq_ns, pq_nn, sl, LIM, R.pv]
theorem rw_6 (C : Cl) (f : Fm) (xs : List Int) (o2 : Option PV) (a : Nat) (ct : List (Int × List Int)) (bl : List Nat) (o6 o7 : Option PV) (ys : List Int) (z : PV) : evS G C rW6 (RW_ f xs o2 a ct bl o6 o7 (some (sg ys)) (some z)) = some (.nx, RW_ f xs o2 a ct bl o6 o7 (some (sg ys)) (some z)) := by
  simp [rW6, RW_, fn_eq, startE, slotOf, q_nil, q_cons, th_nx, th_rt, th_br, th_ct, th_if, s_asgN, s_asgT, s_par, p_nil, p_cons, s_expr, s_ret, s_retN, s_ite, s_setIdx, s_app, setAt, appTo, x_lit, x_glo, x_var, x_tup, x_lst, x_bin, x_neg, x_cmp, x_chain, x_ands, x_ors, x_and1, x_or1, andK_bl, orK_bl, x_and2, x_or2, x_not, x_ite, x_idx, sliceOf, x_slc, x_call, x_callK, x_bi, x_isi, x_rng1, x_rng2, a_nil, a_val, a_ref, k_nil, k_cons, o_none, o_some, val_fz, val_fr, d_slot, d_val, ds_nil, ds_cons, t_some, bw, use, peek, put, modify, truthy, isStr, avGet, avPut, slots, vals?, cmpOp, ords, isIt, isNon, within, b_add, b_sub, b_catT, b_catL, bias, biEv, tyOf, flRv, finE, mkSeq, PV.int?, PV.seq?, PV.lst?, ints?, bindP, bindPs, rangeItems, pick, eo_ii, eo_ss, eo_bb, eo_sn, eo_in, eo_ni, eo_ns, eo_nn, pq_ii, pq_ss, pq_bb, pq_in, pq_ni, pq_sn, pq_ns, pq_nn, sl, sg, LIM]
theorem rw_8 (C : Cl) (f : Fm) (xs : List Int) (o2 : Option PV) (a : Nat) (ct : List (Int × List Int)) (bl : List Nat) (o6 o7 o8 : Option PV) (p : Nat) : evS G C rW8 (RW_ f xs o2 a ct bl o6 o7 o8 (some (.int (p : Int)))) = some (.nx, RW_ f xs o2 p ct bl o6 o7 o8 (some (.int (p : Int)))) := by
  simp [rW8, RW_, fn_eq, startE, slotOf, q_nil, q_cons, th_nx, th_rt, th_br, th_ct, th_if, s_asgN, s_asgT, s_par, p_nil, p_cons, s_expr, s_ret, s_retN, s_ite, s_setIdx, s_app, setAt, appTo, x_lit, x_glo, x_var, x_tup, x_lst, x_bin, x_neg, x_cmp, x_chain, x_ands, x_ors, x_and1, x_or1, andK_bl, orK_bl, x_and2, x_or2, x_not, x_ite, x_idx, sliceOf, x_slc, x_call, x_callK, x_bi, x_isi, x_rng1, x_rng2, a_nil, a_val, a_ref, k_nil, k_cons, o_none, o_some, val_fz, val_fr, d_slot, d_val, ds_nil, ds_cons, t_some, bw, use, peek, put, modify, truthy, isStr, avGet, avPut, slots, vals?, cmpOp, ords, isIt, isNon, within, b_add, b_sub, b_catT, b_catL, bias, biEv, tyOf, flRv, finE, mkSeq, PV.int?, PV.seq?, PV.lst?, ints?, bindP, bindPs, rangeItems, pick, eo_ii, eo_ss, eo_bb, eo_sn, eo_in, eo_ni, eo_ns, eo_nn, pq_ii, pq_ss, pq_bb, pq_in, pq_ni, pq_sn, pq_ns, pq_nn, sl]
theorem rw_7a (C : Cl) (f : Fm) (xs : List Int) (o2 : Option PV) (a : Nat) (ct : List (Int × List Int)) (bl : List Nat) (u : U) (hu : u ≠ .skip) (o7 : Option PV) (ys : List Int) (z : PV) (h : a < xs.length) (hc : ct.length < LIM) : evS G C rW7 (RW_ f xs o2 a ct bl (some (.str u.str)) o7 (some (sg ys)) (some z)) = some (.nx, RW_ f xs o2 a (ct ++ [(xs[a], ys)]) bl (some (.str u.str)) o7 (some (sg ys)) (some z)) := by
  have g1 : xs[a]? = some xs[a] := List.getElem?_eq_getElem h
  have hc' : ct.length < 16777216 := hc
  have hq : (u.str == ("skip" : Str)) = false := by cases u <;> first | exact absurd rfl hu | rfl
  generalize hx : xs[a] = x at g1 ⊢
  simp [rW7, RW_, fn_eq, startE, slotOf, q_nil, q_cons, th_nx, th_rt, th_br, th_ct, th_if, s_asgN, s_asgT, s_par, p_nil, p_cons, s_expr, s_ret, s_retN, s_ite, s_setIdx, s_app, setAt, appTo, x_lit, x_glo, x_var, x_tup, x_lst, x_bin, x_neg, x_cmp, x_chain, x_ands, x_ors, x_and1, x_or1, andK_bl, orK_bl, x_and2, x_or2, x_not, x_ite, x_idx, sliceOf, x_slc, x_call, x_callK, x_bi, x_isi, x_rng1, x_rng2, a_nil, a_val, a_ref, k_nil, k_cons, o_none, o_some, val_fz, val_fr, d_slot, d_val, ds_nil, ds_cons, t_some, bw, use, peek, put, modify, truthy, isStr, avGet, avPut, slots, vals?, cmpOp, ords, isIt, isNon, within, b_add, b_sub, b_catT, b_catL, bias, biEv, tyOf, flRv, finE, mkSeq, PV.int?, PV.seq?, PV.lst?, ints?, bindP, bindPs, rangeItems, pick, eo_ii, eo_ss, eo_bb, eo_sn, eo_in, eo_ni, eo_ns, eo_nn, pq_ii, pq_ss, pq_bb, pq_in, pq_ni, pq_sn, pq_ns, pq_nn, sl, sg, hq, ix_nat, h, hx, g1, hc', LIM, chV]
theorem rw_7s (C : Cl) (f : Fm) (xs : List Int) (o2 : Option PV) (a : Nat) (ct : List (Int × List Int)) (bl : List Nat) (o7 : Option PV) (ys : List Int) (p : Nat) (hp : p ≤ 100000) (hy : ys.length ≤ p) (hb : bl.length ≤ 100000) : evS G C rW7 (RW_ f xs o2 a ct bl (some (.str U.skip.str)) o7 (some (sg ys)) (some (.int (p : Int)))) = some (.nx, RW_ f xs o2 a ct (bl ++ List.range' (p - ys.length) ys.length) (some (.str U.skip.str)) o7 (some (sg ys)) (some (.int (p : Int)))) := by
  have hL := range2x (p - ys.length) p (by omega) (by omega)
  have en : p - (p - ys.length) = ys.length := by omega
  have ez : ((p - ys.length : Nat) : Int) = (p : Int) - (ys.length : Int) := by omega
  rw [en, ez] at hL
  generalize hLL : List.range' (p - ys.length) ys.length = L at hL ⊢
  have hlen : L.length = ys.length := by rw [← hLL, List.length_range']
  have c1 : (L.map natV).length ≤ LIM := by rw [List.length_map]; unfold LIM; omega
  have c2 : (bl.map natV).length + (L.map natV).length ≤ LIM := by rw [List.length_map, List.length_map]; unfold LIM; omega
  have em : (bl ++ L).map natV = bl.map natV ++ L.map natV := List.map_append
  have go : RW_ f xs o2 a ct (bl ++ L) (some (.str U.skip.str)) o7 (some (sg ys)) (some (.int (p : Int))) = (RW_ f xs o2 a ct bl (some (.str U.skip.str)) o7 (some (sg ys)) (some (.int (p : Int)))).set 5 (.ow (.lst (bl.map natV ++ L.map natV))) := by
    unfold RW_
    rw [em]
    rfl
  rw [go]
  have hput : put 5 (.fr (.lst (bl.map natV ++ L.map natV))) (RW_ f xs o2 a ct bl (some (.str U.skip.str)) o7 (some (sg ys)) (some (.int (p : Int)))) = some ((RW_ f xs o2 a ct bl (some (.str U.skip.str)) o7 (some (sg ys)) (some (.int (p : Int)))).set 5 (.ow (.lst (bl.map natV ++ L.map natV)))) := rfl
  generalize hρ : RW_ f xs o2 a ct bl (some (.str U.skip.str)) o7 (some (sg ys)) (some (.int (p : Int))) = ρ at hput ⊢
  have ht : tst (evE G C (.cmp .eq (.var 6) (.lit (.str "skip"))) ρ) = some (true, ρ) := by subst hρ; rfl
  have e0 : evE G C (.bi .len [(.ref, (.var 8))]) ρ = some (.fz (.int (ys.length : Int)), ρ) := by
    have e0 : evE G C (.bi .len [(.ref, (.var 8))]) ρ = some (.fz (.int ((ys.map PV.int).length : Int)), ρ) := by subst hρ; rfl
    rw [e0, List.length_map]
  have e1 : evE G C (.bin .sub (.var 9) (.bi .len [(.ref, (.var 8))])) ρ = some (.fz (.int ((p : Int) - (ys.length : Int))), ρ) := bin_evV (i := 9) (x := .int (p : Int)) (by subst hρ; rfl) (by subst hρ; rfl) e0 rfl (b_sub _ _)
  have e2 : evE G C (.var 9) ρ = some (.fz (.int (p : Int)), ρ) := by subst hρ; rfl
  have hr : evE G C (.rng2 false (.bin .sub (.var 9) (.bi .len [(.ref, (.var 8))])) (.var 9)) ρ = some (.fr (.lst (L.map natV)), ρ) := by
    rw [x_rng2, e1, Option.bind_some, e2, Option.bind_some, val_fz, val_fz, hL, Option.bind_some]
    unfold mkSeq
    rw [if_pos c1]
    rfl
  have hs : bw (.var 5) (evE G C (.var 5) ρ) ρ = some (.slot 5, ρ) := by subst hρ; rfl
  have hp : peek 5 ρ = some (.lst (bl.map natV)) := by subst hρ; rfl
  have ha2 : evE G C (.bin .add (.var 5) (.rng2 false (.bin .sub (.var 9) (.bi .len [(.ref, (.var 8))])) (.var 9))) ρ = some (.fr (.lst (bl.map natV ++ L.map natV)), ρ) := bin_evV (i := 5) hs hp hr rfl (by rw [val_fr, b_catL, if_pos c2])
  rw [rW7, s_ite, ht, Option.bind_some, if_pos rfl, q_cons, s_asgN, ha2, Option.bind_some, hput]
  rfl
/-- one turn of the reading -/
theorem rw_turn (k : Nat) (f : Fm) (hf : f.Ok) (xs : List Int) (hl : xs.length ≤ 100000) (hx : ∀ x ∈ xs, inB f.b x = true) (o2 : Option PV) (a : Nat) (ct : List (Int × List Int)) (bl : List Nat) (o6 o7 o8 o9 : Option PV) (h : a < xs.length) (hct : ct.length ≤ a) (hbl : bl.length ≤ a) :
    (∃ ρ', evSs G (evCl G F (k + 2)) rW (RW_ f xs o2 a ct bl o6 o7 o8 o9) = some (.rt (.fz (R.pv (rd f .tag a ct bl (xs.drop a)))), .fz f.pv :: .fz (sg xs) :: ρ')) ∨
    (∃ (p : Nat) (ct' : List (Int × List Int)) (bl' : List Nat) (q6 q7 q8 q9 : Option PV), evSs G (evCl G F (k + 2)) rW (RW_ f xs o2 a ct bl o6 o7 o8 o9) = some (.nx, RW_ f xs o2 p ct' bl' q6 q7 q8 q9) ∧ a < p ∧ p ≤ xs.length ∧ ct'.length ≤ p ∧ bl'.length ≤ p ∧ rd f .tag a ct bl (xs.drop a) = rd f .tag p ct' bl' (xs.drop p)) := by
  have hd : xs.drop a = xs[a] :: xs.drop (a + 1) := List.drop_eq_getElem_cons h
  rw [rW, q_cons, rw_1 (k + 1) f xs o2 a ct bl o6 o7 o8 o9 h, th_nx, hd]
  have hstp := step_tag f xs[a]
  cases hu : useAt f xs[a] with
  | none =>
    have hlu : luse f xs[a] = "" := by unfold luse; rw [hu]
    left
    rw [hu] at hstp
    rw [hlu, q_cons, rw_2n, th_rt, rd_stop hstp]
    exact ⟨_, rfl⟩
  | some u =>
    have hlu := luse_body hu
    rw [hlu, q_cons, rw_2, th_nx, q_cons]
    by_cases hfin : u = .fin
    · subst hfin
      left
      rw [rw_3n (evCl G F (k + 2)) f xs o2 a ct bl o7 o8 o9 h hl (by omega), th_rt]
      have e : tellS f .tag xs[a] ct = ct := by unfold tellS; rw [hu]; rfl
      rw [hu] at hstp
      have er : rd f .tag a ct bl (xs[a] :: xs.drop (a + 1)) = .ok ct (bl ++ List.range' (a + 1) (xs.length - (a + 1))) := by
        rw [rd_step hstp, e, rd_room, List.length_drop]
        rfl
      rw [er]
      exact ⟨_, rfl⟩
    · rw [rw_3 _ _ _ _ _ _ _ u hfin, th_nx, q_cons]
      by_cases hstop : u = .stop
      · subst hstop
        left
        obtain ⟨ρ', e⟩ := rw_4n (evCl G F (k + 2)) f xs o2 a ct bl o7 o8 o9
        rw [e, th_rt]
        refine ⟨ρ', ?_⟩
        rw [hu] at hstp
        rw [rd_step hstp]
        have et : tellS f .tag xs[a] ct = ct := by unfold tellS; rw [hu]; rfl
        show some (Fl.rt (.fz (R.pv (if a + 1 = xs.length then .ok ct bl else .bad (a + 1) "behind"))), _) = some (Fl.rt (.fz (R.pv (rd f .over (a + 1) (tellS f .tag xs[a] ct) bl (xs.drop (a + 1))))), _)
        rw [et]
        by_cases hend : a + 1 = xs.length
        · have hd2 : xs.drop (a + 1) = [] := List.drop_eq_nil_iff.mpr (by omega)
          rw [if_pos hend, hd2, rd_nil]
          rfl
        · have h2 : a + 1 < xs.length := by omega
          rw [if_neg hend, List.drop_eq_getElem_cons h2, rd_cons]
          rfl
      · have hb : isBody u := by
          cases u with
          | keep => exact .inl rfl
          | check => exact .inr (.inl rfl)
          | skip => exact .inr (.inr rfl)
          | fin => exact absurd rfl hfin
          | stop => exact absurd rfl hstop
        have hst := step_tag_body hu hb
        rw [rw_4 _ _ _ _ _ _ _ u hstop, th_nx, q_cons, rw_5 k f hf xs hx o2 a h, th_nx, q_cons, rd_step hst]
        have et : tellS f .tag xs[a] ct = if isTold u then ct ++ [(xs[a], [])] else ct := by unfold tellS; rw [hu]
        have el : (if lookS f .tag then bl else bl ++ [a]) = bl := rfl
        rw [el, et]
        rcases rd_chunk f hf xs hx u (a + 1) h (if isTold u then ct ++ [(xs[a], [])] else ct) bl with ⟨ys, p, e1, l1, l2, l3, _, e2⟩ | ⟨p, w, e1, e2⟩
        · right
          rw [e1, e2]
          show ∃ _, _
          by_cases hsk : u = .skip
          · subst hsk
            refine ⟨p, ct, bl ++ List.range' (p - ys.length) ys.length, some (.str U.skip.str), o7, some (sg ys), some (.int (p : Int)), ?_, by omega, l2, by omega, ?_, ?_⟩
            · show thenS (evS G _ rW6 (RW_ f xs o2 a ct bl (some (.str U.skip.str)) o7 (some (sg ys)) (some (.int (p : Int))))) _ = _
              rw [rw_6, th_nx, q_cons, rw_7s _ _ _ _ _ _ _ _ ys p (by omega) (by omega) (by omega), th_nx, q_cons, rw_8, th_nx]
              rfl
            · rw [List.length_append, List.length_range']
              have : ys.length + (a + 1) ≤ p := by
                have hcl : (chunkS f xs (a + 1) .skip) = .ok ys p := e1
                unfold chunkS at hcl
                cases hlg : longS f xs (a + 1) with
                | bad p' w' => rw [hlg] at hcl; cases hcl
                | ok w' p' =>
                  rw [hlg] at hcl
                  have hcl : (if xs.length < p' + w'.toNat then CR.bad xs.length "short" else if U.skip ≠ .check then CR.ok ((xs.drop p').take w'.toNat) (p' + w'.toNat) else _) = CR.ok ys p := hcl
                  split at hcl
                  · cases hcl
                  · rw [if_pos (by decide)] at hcl
                    injection hcl with h1 h2
                    have hp' : a + 1 < p' := by
                      rcases run_long f hf xs hx .skip (a + 1) h with ⟨n, q, g1, g2, _, _⟩ | ⟨q, g1, _⟩ | ⟨g1, _⟩
                      · rw [hlg] at g1
                        injection g1 with g3 g4
                        omega
                      · rw [hlg] at g1; cases g1
                      · rw [hlg] at g1; cases g1
                    rw [← h1, ← h2, List.length_take, List.length_drop]
                    omega
              omega
            · rfl
          · refine ⟨p, ct ++ [(xs[a], ys)], bl, some (.str u.str), o7, some (sg ys), some (.int (p : Int)), ?_, by omega, l2, by rw [List.length_append]; simp; omega, by omega, ?_⟩
            · show thenS (evS G _ rW6 (RW_ f xs o2 a ct bl (some (.str u.str)) o7 (some (sg ys)) (some (.int (p : Int))))) _ = _
              rw [rw_6, th_nx, q_cons, rw_7a _ _ _ _ _ _ _ u hsk _ _ _ h (by unfold LIM; omega), th_nx, q_cons, rw_8, th_nx]
              rfl
            · have ht : isTold u = true := by
                rcases hb with rfl | rfl | rfl
                · rfl
                · rfl
                · exact absurd rfl hsk
              rw [if_pos ht]
              unfold tellN blN
              rw [if_pos ht, if_neg hsk, fold_app]
              rfl
        · left
          rw [e1, e2]
          have er := rw_6b (evCl G F (k + 2)) f xs o2 a ct bl (some (.str u.str)) o7 p w
          simp only [crV]
          rw [er, th_rt]
          exact ⟨_, rfl⟩
theorem rw_test (C : Cl) (f : Fm) (xs : List Int) (o2 : Option PV) (a : Nat) (ct : List (Int × List Int)) (bl : List Nat) (o6 o7 o8 o9 : Option PV) : tst (evE G C (.cmp .lt (.var 3) (.bi .len [(.ref, (.var 1))])) (RW_ f xs o2 a ct bl o6 o7 o8 o9)) = some (decide (a < xs.length), RW_ f xs o2 a ct bl o6 o7 o8 o9) := by
  have : decide ((a : Int) < ((xs.map PV.int).length : Int)) = decide (a < xs.length) := by
    rw [List.length_map]
    by_cases h : a < xs.length
    · rw [decide_eq_true h, decide_eq_true (by omega)]
    · rw [decide_eq_false h, decide_eq_false (by omega)]
  rw [← this]
  rfl
theorem rw_while (k : Nat) (f : Fm) (hf : f.Ok) (xs : List Int) (hl : xs.length ≤ 100000) (hx : ∀ x ∈ xs, inB f.b x = true) (o2 : Option PV) : ∀ (n a : Nat) (ct : List (Int × List Int)) (bl : List Nat) (o6 o7 o8 o9 : Option PV), a ≤ xs.length → xs.length - a < n → ct.length ≤ a → bl.length ≤ a →
    (∃ ρ', whileLoop (fun ρ1 => tst (evE G (evCl G F (k + 2)) (.cmp .lt (.var 3) (.bi .len [(.ref, (.var 1))])) ρ1)) (fun ρ1 => evSs G (evCl G F (k + 2)) rW ρ1) n (RW_ f xs o2 a ct bl o6 o7 o8 o9) = some (.rt (.fz (R.pv (rd f .tag a ct bl (xs.drop a)))), .fz f.pv :: .fz (sg xs) :: ρ')) ∨
    (∃ (ct' : List (Int × List Int)) (bl' : List Nat) (q6 q7 q8 q9 : Option PV), whileLoop (fun ρ1 => tst (evE G (evCl G F (k + 2)) (.cmp .lt (.var 3) (.bi .len [(.ref, (.var 1))])) ρ1)) (fun ρ1 => evSs G (evCl G F (k + 2)) rW ρ1) n (RW_ f xs o2 a ct bl o6 o7 o8 o9) = some (.nx, RW_ f xs o2 xs.length ct' bl' q6 q7 q8 q9) ∧ rd f .tag a ct bl (xs.drop a) = rd f .tag xs.length ct' bl' [])
  | 0, a, ct, bl, o6, o7, o8, o9, _, h, _, _ => by omega
  | n + 1, a, ct, bl, o6, o7, o8, o9, ha, h, hc, hb => by
    rw [whileLoop, rw_test]
    by_cases hlt : a < xs.length
    · rw [decide_eq_true hlt]
      simp only [Option.bind_some, if_true]
      rcases rw_turn k f hf xs hl hx o2 a ct bl o6 o7 o8 o9 hlt hc hb with ⟨ρ', e⟩ | ⟨p, ct', bl', q6, q7, q8, q9, e, l1, l2, l3, l4, e2⟩
      · rw [e]
        exact .inl ⟨ρ', rfl⟩
      · rw [e, e2]
        exact rw_while k f hf xs hl hx o2 n p ct' bl' q6 q7 q8 q9 l2 (by omega) l3 l4
    · rw [decide_eq_false hlt]
      have e : a = xs.length := by omega
      subst e
      exact .inr ⟨ct, bl, o6, o7, o8, o9, rfl, by rw [List.drop_length]⟩
def rTail : List Sm := f_law_reading.body.drop 4
def rComp : Ex := .comp (.var 10) [10] (.name 10) (.ex (.idx (.var 0) (.lit (.int 4)))) [(.cmp .isin (.idx (.var 10) (.lit (.int 1))) (.tup [(.val, (.lit (.str "end"))), (.val, (.lit (.str "stop")))]))]
theorem end_in (u : U) : (("end" : Str) == u.str || ("stop" : Str) == u.str) = endU u := by cases u <;> rfl
theorem r_comp (C : Cl) (f : Fm) (hf : f.Ok) (xs : List Int) (o2 : Option PV) (a : Nat) (ct : List (Int × List Int)) (bl : List Nat) (o6 o7 o8 o9 : Option PV) : evE G C rComp (RW_ f xs o2 a ct bl o6 o7 o8 o9) = some (.fr (.lst ((f.tg.filter fun r => endU r.2).map row)), RW_ f xs o2 a ct bl o6 o7 o8 o9) := by
  have hw : wipe (RW_ f xs o2 a ct bl o6 o7 o8 o9) [10] = RW_ f xs o2 a ct bl o6 o7 o8 o9 := rfl
  refine x_comp (items := f.tg.map row) (ρ1 := RW_ f xs o2 a ct bl o6 o7 o8 o9) (ρ2 := RW_ f xs o2 a ct bl o6 o7 o8 o9) rfl rfl ?_ rfl
  rw [hw]
  have hm := comp_filter (turn := cT G C (.var 10) [10] (.name 10) [(.cmp .isin (.idx (.var 10) (.lit (.int 1))) (.tup [(.val, (.lit (.str "end"))), (.val, (.lit (.str "stop")))]))]) (f := row) (enc := row) (p := fun r => endU r.2) (ρ := RW_ f xs o2 a ct bl o6 o7 o8 o9) f.tg [] (fun r _ => ?_) (by have := hf.tl; unfold LIM; simp; omega)
  · exact hm
  · obtain ⟨s, u⟩ := r
    cases u <;> simp (decide := true) [cT, evTs, wipe, RW_, fn_eq, startE, slotOf, q_nil, q_cons, th_nx, th_rt, th_br, th_ct, th_if, s_asgN, s_asgT, s_par, p_nil, p_cons, s_expr, s_ret, s_retN, s_ite, s_setIdx, s_app, setAt, appTo, x_lit, x_glo, x_var, x_tup, x_lst, x_bin, x_neg, x_cmp, x_chain, x_ands, x_ors, x_and1, x_or1, andK_bl, orK_bl, x_and2, x_or2, x_not, x_ite, x_idx, sliceOf, x_slc, x_call, x_callK, x_bi, x_isi, x_rng1, x_rng2, a_nil, a_val, a_ref, k_nil, k_cons, o_none, o_some, val_fz, val_fr, d_slot, d_val, ds_nil, ds_cons, t_some, bw, use, peek, put, modify, truthy, isStr, avGet, avPut, slots, vals?, cmpOp, ords, isIt, isNon, within, b_add, b_sub, b_catT, b_catL, bias, biEv, tyOf, flRv, finE, mkSeq, PV.int?, PV.seq?, PV.lst?, ints?, bindP, bindPs, rangeItems, pick, eo_ii, eo_ss, eo_bb, eo_sn, eo_in, eo_ni, eo_ns, eo_nn, pq_ii, pq_ss, pq_bb, pq_in, pq_ni, pq_sn, pq_ns, pq_nn, row, ixN, U.str, endU, LIM]
theorem r_tail (C : Cl) (f : Fm) (hf : f.Ok) (xs : List Int) (o2 : Option PV) (ct : List (Int × List Int)) (bl : List Nat) (o6 o7 o8 o9 : Option PV) : ∃ ρ', evSs G C rTail (RW_ f xs o2 xs.length ct bl o6 o7 o8 o9) = some (.rt (.fz (R.pv (rd f .tag xs.length ct bl []))), .fz f.pv :: .fz (sg xs) :: ρ') := by
  have hc := r_comp C f hf xs o2 xs.length ct bl o6 o7 o8 o9
  have hends : endsF f = !((f.tg.filter fun r => endU r.2).isEmpty) := by
    unfold endsF
    cases h : (f.tg.any fun r => endU r.2) with
    | true =>
      obtain ⟨r, hr1, hr2⟩ := List.any_eq_true.mp h
      have : r ∈ f.tg.filter fun r => endU r.2 := List.mem_filter.mpr ⟨hr1, hr2⟩
      cases hq : f.tg.filter fun r => endU r.2 with
      | nil => rw [hq] at this; cases this
      | cons _ _ => rfl
    | false =>
      have : (f.tg.filter fun r => endU r.2) = [] := List.filter_eq_nil_iff.mpr fun r hr z => by
        have := List.any_eq_false.mp h r hr
        exact this z
      rw [this]
      rfl
  rw [rd_nil]
  show ∃ ρ', _ = some (Fl.rt (.fz (R.pv (if (!endsF f) = true then .ok ct bl else .bad xs.length "short"))), _)
  rw [hends]
  generalize hes : (f.tg.filter fun r => endU r.2) = es at hc
  have hlen : es.length ≤ 1000 := by
    rw [← hes]
    exact Nat.le_trans (List.length_filter_le _ _) hf.tl
  have hT : rTail = [.ite (.cmp .ne rComp (.lst [])) [.ret (.tup [(.val, (.lit .non)), (.val, (.lit .non)), (.val, (.tup [(.val, (.bi .len [(.ref, (.var 1))])), (.val, (.lit (.str "short")))]))])] [],
    .ret (.tup [(.val, (.bi .tuple [(.ref, (.var 4))])), (.val, (.var 5)), (.val, (.lit .non))])] := rfl
  have hb : bw rComp (evE G C rComp (RW_ f xs o2 xs.length ct bl o6 o7 o8 o9)) (RW_ f xs o2 xs.length ct bl o6 o7 o8 o9) = some (.val (.lst (es.map row)), RW_ f xs o2 xs.length ct bl o6 o7 o8 o9) := by rw [hc]; rfl
  have hfl : ∀ es : List (Int × U), flats (es.map row) = true := fun es => by
    induction es with
    | nil => rfl
    | cons e es ih =>
      show (PV.flat (row e) && flats (es.map row)) = true
      rw [ih, flat_row]
      rfl
  have heq : eqOk (.lst (es.map row)) (.lst []) = true := by
    show (false || ((PV.flat (.lst (es.map row))) && PV.flat (.lst []) && decide (min (PV.dep (.lst (es.map row))) (PV.dep (.lst [])) ≤ 60))) = true
    have h1 : PV.flat (.lst (es.map row)) = true := hfl es
    have h2 : min (PV.dep (.lst (es.map row))) (PV.dep (.lst [])) ≤ 60 := Nat.le_trans (Nat.min_le_right _ _) (by decide)
    rw [h1, decide_eq_true h2]
    rfl
  have ht : evE G C (.cmp .ne rComp (.lst [])) (RW_ f xs o2 xs.length ct bl o6 o7 o8 o9) = some (.fz (.bl (!peq (.lst (es.map row)) (.lst []))), RW_ f xs o2 xs.length ct bl o6 o7 o8 o9) := by
    rw [x_cmp, hb, Option.bind_some, x_nil]
    show ((cmpOp .ne (.lst (es.map row)) (.lst [])).map fun r => (RV.fz (.bl r), RW_ f xs o2 xs.length ct bl o6 o7 o8 o9)) = _
    have : cmpOp .ne (.lst (es.map row)) (.lst []) = if eqOk (.lst (es.map row)) (.lst []) = true then some (!peq (.lst (es.map row)) (.lst [])) else none := rfl
    rw [this, if_pos heq]
    rfl
  have htt : tst (some (RV.fz (.bl (!peq (.lst (es.map row)) (.lst []))), RW_ f xs o2 xs.length ct bl o6 o7 o8 o9)) = some (!peq (.lst (es.map row)) (.lst []), RW_ f xs o2 xs.length ct bl o6 o7 o8 o9) := rfl
  rw [hT, q_cons, s_ite, ht, htt, Option.bind_some]
  cases es with
  | nil => exact ⟨_, rfl⟩
  | cons e es =>
    have er : R.pv (if (!!(e :: es).isEmpty) = true then .ok ct bl else .bad xs.length "short") = .tup [.non, .non, .tup [.int ((xs.map PV.int).length : Int), .str "short"]] := by
      rw [List.length_map]
      rfl
    rw [er]
    exact ⟨_, rfl⟩
theorem e_law_reading (k : Nat) (f : Fm) (hf : f.Ok) (xs : List Int) (hl : xs.length ≤ 100000) (hx : ∀ x ∈ xs, inB f.b x = true) : evCl G F (k + 3) c_law_reading [(false, f.pv), (false, sg xs)] = some (.fz (R.pv (rd f (firstS f) 0 [] [] xs)), []) := by
  have hh := hf.hl
  obtain ⟨o', bl', fl, e1, e2⟩ := r_loop (k + 2) f xs f.hd.length 0 none [] (by omega) (Nat.zero_le _) (by simp) (by omega)
  rw [← List.range_eq_range'] at e1
  rw [first_stK]
  have hi : evI G (evCl G F (k + 2)) (.range [(.val, (.bi .len [(.ref, (.idx (.var 0) (.lit (.int 1))))]))]) (RE f xs none []) = some ((List.range f.hd.length).map fun i => PV.int (i : Nat), RE f xs none []) := by
    have ha : evAs G (evCl G F (k + 2)) [(.val, (.bi .len [(.ref, (.idx (.var 0) (.lit (.int 1))))]))] (RE f xs none []) = some ([.val (.int ((f.hd.map mkO).length : Int))], RE f xs none []) := rfl
    have hv : vals? [Bw.val (.int ((f.hd.map mkO).length : Int))] = some [.int ((f.hd.map mkO).length : Int)] := rfl
    rw [i_range, ha, Option.bind_some, hv, Option.bind_some, List.length_map, range_nat _ (by omega)]
    rfl
  have hs : f_law_reading.body = .par [4, 5] [(.lst []), (.lst [])] :: .for_ (.name 2) (.range [(.val, (.bi .len [(.ref, (.idx (.var 0) (.lit (.int 1))))]))]) rBody :: .asg (.name 3) (.bi .len [(.ref, (.idx (.var 0) (.lit (.int 1))))]) :: .while_ (.cmp .lt (.var 3) (.bi .len [(.ref, (.var 1))])) rW :: rTail := rfl
  have h1 : evS G (evCl G F (k + 2)) (.par [4, 5] [(.lst []), (.lst [])]) (startE 11 [(false, f.pv), (false, sg xs)]) = some (.nx, RE f xs none []) := by
    rw [s_par, p_cons, x_nil, Option.bind_some, p_cons, x_nil, Option.bind_some, p_nil]
    rfl
  have hm : f_law_reading.m = 11 := rfl
  have hu := u_law_reading (k + 2) [(false, f.pv), (false, sg xs)]
  rw [fn_eq, if_pos (by rw [hm]; show 2 ≤ 11; omega), hm, hs, q_cons, h1, th_nx, q_cons, s_for, hi, Option.bind_some] at hu
  have e1' : forLoop (fT G (evCl G F (k + 2)) (.name 2) rBody) ((List.range f.hd.length).map fun i => PV.int (i : Nat), RE f xs none []).1 ((List.range f.hd.length).map fun i => PV.int (i : Nat), RE f xs none []).2 = some (fl, RE f xs o' bl') := e1
  rw [e1'] at hu
  rcases e2 with rfl | ⟨rfl, l1, l2, e2⟩
  · exact hu.trans rfl
  · have h3 : evS G (evCl G F (k + 2)) (.asg (.name 3) (.bi .len [(.ref, (.idx (.var 0) (.lit (.int 1))))])) (RE f xs o' bl') = some (.nx, RW_ f xs o' f.hd.length [] bl' none none none none) := by
      have hlen : ((f.hd.map mkO).length : Int) = (f.hd.length : Int) := by rw [List.length_map]
      unfold RW_
      rw [← hlen]
      rfl
    rw [List.drop_zero] at e2
    rw [e2]
    rw [th_nx, q_cons, h3, th_nx, q_cons, s_while] at hu
    rcases rw_while k f hf xs hl hx o' FUEL f.hd.length [] bl' none none none none l1 (by unfold FUEL; omega) (by simp) l2 with ⟨ρ', w1⟩ | ⟨ct', bl2, q6, q7, q8, q9, w1, w2⟩
    · rw [w1, th_rt] at hu
      exact hu.trans rfl
    · rw [w1, th_nx] at hu
      obtain ⟨ρ', w3⟩ := r_tail (evCl G F (k + 2)) f hf xs o' ct' bl2 q6 q7 q8 q9
      rw [w3] at hu
      rw [w2]
      exact hu.trans rfl
end EV.Law
set_option linter.all false
set_option maxRecDepth 100000
namespace EV.Law
open PySem EV
theorem inB_of {b d : Int} (h0 : 0 ≤ d) (h1 : d < b) : inB b d = true := by
  unfold inB
  rw [decide_eq_true h0, decide_eq_true h1]
  rfl
/-- a slot that may be stored at -/
def free (s : Slot) : Prop := ∀ v, s ≠ .pn v
theorem put_free {i : Nat} {r : RV} {ρ : Env} {s : Slot} (h : ρ[i]? = some s) (hs : free s) : put i r ρ = some (ρ.set i (match r with | .fz v => .fz v | .fr v => .ow v)) := by
  unfold put
  rw [h]
  cases s with
  | pn v => exact absurd rfl (hs v)
  | un => rfl
  | fz _ => rfl
  | ow _ => rfl
theorem BG.less {a c : Nat} {w : PV} (hac : a ≤ c) (h : BG c w) : BG a w := by
  obtain ⟨x, y, z, h1, h2, h3, h4, h5⟩ := h
  exact ⟨x, y, z, h1, h2, h3, h4, by omega⟩
end EV.Law
set_option linter.all false
set_option maxRecDepth 100000
namespace EV.Law
open PySem EV
theorem call2 (C : Cl) (g : Nat) (a b : Ex) (P Y O : PV) (ρ : Env) (ha : evAs G C [(.val, a), (.val, b)] ρ = some ([.val P, .val Y], ρ)) (hc : C g [(false, P), (false, Y)] = some (.fz O, [])) : evE G C (.call g [(.val, a), (.val, b)]) ρ = some (.fz O, ρ) := by
  rw [x_call, ha, Option.bind_some]
  simp [slots, avGet, avPut, hc]
theorem callK2 (C : Cl) (g : Nat) (a b : Ex) (P Y O : PV) (ρ : Env) (ha : evE G C a ρ = some (.fz Y, ρ)) (hb : evE G C b ρ = some (.fz P, ρ)) (hc : C g [(false, P), (false, Y)] = some (.fz O, [])) : evE G C (.callK g [] [a, b] [1, 0]) ρ = some (.fz O, ρ) := by
  have hk : evKs G C [a, b] ρ = some ([Y, P], ρ) := by
    rw [k_cons, ha, Option.bind_some, k_cons, hb, Option.bind_some, k_nil]
    rfl
  rw [x_callK, a_nil, Option.bind_some, hk, Option.bind_some]
  have hp : (pick (([] : List PV) ++ [Y, P]) [1, 0]) = some [P, Y] := rfl
  have hv : vals? ([] : List Bw) = some [] := rfl
  rw [hv, Option.bind_some, hp, Option.bind_some]
  show (C g [(false, P), (false, Y)]).map _ = _
  rw [hc]
  rfl
/-- a list of two values -/
theorem lst2 (C : Cl) (a b : Ex) (A B : PV) (ρ : Env) (ha : evAs G C [(.val, a), (.val, b)] ρ = some ([.val A, .val B], ρ)) : evE G C (.lst [(.val, a), (.val, b)]) ρ = some (.fr (.lst [A, B]), ρ) := by
  have hv : vals? [Bw.val A, Bw.val B] = some [A, B] := rfl
  rw [x_lst, ha, Option.bind_some, hv, Option.bind_some, if_pos (by show 2 ≤ LIM; decide)]
theorem as2 (C : Cl) (a b : Ex) (A B : PV) (ρ : Env) (ha : evE G C a ρ = some (.fz A, ρ)) (hb : evE G C b ρ = some (.fz B, ρ)) : evAs G C [(.val, a), (.val, b)] ρ = some ([.val A, .val B], ρ) := by
  rw [a_val, ha, Option.bind_some, a_val, hb, Option.bind_some, a_nil]
  rfl
/-- a call with two value args, the environment changed by the first -/
theorem call2' (C : Cl) (g : Nat) (a b : Ex) (P Y O : PV) (ρ ρ1 ρ2 : Env) (ha : evE G C a ρ = some (.fz P, ρ1)) (r : RV) (hb : evE G C b ρ1 = some (r, ρ2)) (hr : r.val = Y) (hc : C g [(false, P), (false, Y)] = some (.fz O, [])) : evE G C (.call g [(.val, a), (.val, b)]) ρ = some (.fz O, ρ2) := by
  have h : evAs G C [(.val, a), (.val, b)] ρ = some ([.val P, .val Y], ρ2) := by
    rw [a_val, ha, Option.bind_some, a_val, hb, Option.bind_some, a_nil, ← hr]
    rfl
  rw [x_call, h, Option.bind_some]
  simp [slots, avGet, avPut, hc]
/-- a call whose first argument is a list of the caller's own -/
theorem ref_call {C : Cl} {g i : Nat} {es : List (AK × Ex)} {ρ ρ1 : Env} {v v' : PV} {vs : List PV} {r : RV} (hp : ∃ u, peek i ρ = some u) (ha : evAs G C es ρ = some (vs.map Bw.val, ρ1)) (h1 : ρ1[i]? = some (.ow v)) (hc : C g ((true, v) :: vs.map fun x => (false, x)) = some (r, [v'])) :
    evE G C (.call g ((.ref, .var i) :: es)) ρ = some (r, ρ1.set i (.ow v')) := by
  obtain ⟨u, hu⟩ := hp
  have hb : bw (.var i) (evE G C (.var i) ρ) ρ = some (.slot i, ρ) := by
    show (peek i ρ).map (fun _ => (Bw.slot i, ρ)) = _
    rw [hu]
    rfl
  have hs : ∀ xs : List PV, slots (xs.map Bw.val) = [] := fun xs => by
    induction xs with
    | nil => rfl
    | cons x xs ih => exact ih
  have hg : ∀ xs : List PV, avGet ρ1 (xs.map Bw.val) = some (xs.map fun x => (false, x)) := fun xs => by
    induction xs with
    | nil => rfl
    | cons x xs ih =>
      show (avGet ρ1 (xs.map Bw.val)).map ((false, x) :: ·) = _
      rw [ih]
      rfl
  have hpu : ∀ (xs : List PV) (ρ2 : Env), avPut (xs.map Bw.val) [] ρ2 = some ρ2 := fun xs => by
    induction xs with
    | nil => exact fun _ => rfl
    | cons x xs ih => exact ih
  have e1 : (slots (Bw.slot i :: vs.map Bw.val)).length ≤ 1 := by
    show (i :: slots (vs.map Bw.val)).length ≤ 1
    rw [hs]
    exact Nat.le_refl 1
  have e2 : avGet ρ1 (Bw.slot i :: vs.map Bw.val) = some ((true, v) :: vs.map fun x => (false, x)) := by
    rw [avGet, h1]
    show (avGet ρ1 (vs.map Bw.val)).map ((true, v) :: ·) = _
    rw [hg]
    rfl
  have e3 : avPut (Bw.slot i :: vs.map Bw.val) [v'] ρ1 = some (ρ1.set i (.ow v')) := by
    show (modify i (fun _ => some v') ρ1).bind (fun ρ2 => avPut (vs.map Bw.val) [] ρ2) = _
    rw [modify, h1]
    show (some (ρ1.set i (.ow v'))).bind _ = _
    rw [Option.bind_some, hpu]
  rw [x_call, a_ref, hb, Option.bind_some]
  show ((evAs G C es ρ).map _).bind _ = _
  rw [ha, Option.map_some, Option.bind_some, if_pos e1]
  show (avGet ρ1 (Bw.slot i :: vs.map Bw.val)).bind _ = _
  rw [e2, Option.bind_some, hc, Option.bind_some]
  show (avPut (Bw.slot i :: vs.map Bw.val) [v'] ρ1).map _ = _
  rw [e3]
  rfl
theorem peek_ow {i : Nat} {ρ : Env} {v : PV} (h : ρ[i]? = some (.ow v)) : ∃ u, peek i ρ = some u := ⟨v, by rw [peek, h]⟩
/-- a draw -/
theorem grab_at {k q i : Nat} {ρ : Env} {v : PV} {e : Ex} {b : Int} (h : ρ[i]? = some (.ow v)) (he : evE G (evCl G F (k + 1)) e ρ = some (.fz (.int b), ρ)) (hv : BG (q + 1) v) (hb : 0 < b) (hb2 : b < 18446744073709551616) :
    ∃ (d : Int) (v' : PV), evE G (evCl G F (k + 1)) (.call c_law_grab [(.ref, .var i), (.val, e)]) ρ = some (.fz (.int d), ρ.set i (.ow v')) ∧ 0 ≤ d ∧ d < b ∧ BG q v' := by
  obtain ⟨d, v', g, p1, p2, hv'⟩ := e_grab k q v b hv hb hb2
  refine ⟨d, v', ?_, p1, p2, hv'⟩
  exact ref_call (vs := [.int b]) (peek_ow h) (by rw [a_val, he, Option.bind_some, a_nil]; rfl) h g
/-- an item of a list of ints, the place drawn -/
theorem draw_at {C : Cl} {ρ ρ1 : Env} {es : List (AK × Ex)} {is : List Int} {e : Ex} {d : Int} (ha : evE G C (.lst es) ρ = some (.fr (.lst (is.map PV.int)), ρ)) (hb : bw (.lst es) (evE G C (.lst es) ρ) ρ = some (.val (.lst (is.map PV.int)), ρ)) (he : evE G C e ρ = some (.fz (.int d), ρ1)) (h0 : 0 ≤ d) (h1 : d < is.length) :
    ∃ x ∈ is, evE G C (.idx (.lst es) e) ρ = some (.fz (.int x), ρ1) := by
  obtain ⟨n, rfl⟩ := Int.eq_ofNat_of_zero_le h0
  have hn : n < is.length := by omega
  refine ⟨is[n], List.getElem_mem hn, ?_⟩
  rw [x_idx, hb, Option.bind_some, he, Option.bind_some]
  have hi : ixN (is.map PV.int).length (n : Int) = some n := by
    rw [ix_nat, List.length_map, if_pos hn]
  have hg : (is.map PV.int)[n]? = some (.int is[n]) := by
    rw [List.getElem?_map, List.getElem?_eq_getElem hn]
    rfl
  show (ixN (is.map PV.int).length (n : Int)).bind _ = _
  rw [hi, Option.bind_some]
  show ((is.map PV.int)[n]?).map _ = _
  rw [hg]
  rfl
theorem range_ints (n : Nat) : (List.range n).map (fun i => PV.int (i : Nat)) = ((List.range n).map fun i => ((i : Nat) : Int)).map PV.int := by
  rw [List.map_map]
  rfl
theorem cat_ev {C : Cl} {a b : Ex} {ρ ρ1 ρ2 : Env} {xs ys : List PV} (ha : bw a (evE G C a ρ) ρ = some (.val (.lst xs), ρ1)) (hb : bw b (evE G C b ρ1) ρ1 = some (.val (.lst ys), ρ2)) (hl : xs.length + ys.length ≤ LIM) : evE G C (.bin .add a b) ρ = some (.fr (.lst (xs ++ ys)), ρ2) := by
  rw [x_bin, ha, Option.bind_some]
  show (bw b (evE G C b ρ1) ρ1).bind _ = _
  rw [hb, Option.bind_some]
  show ((binOp .add (.lst xs) (.lst ys)).map _) = _
  rw [b_catL, if_pos hl]
  rfl
theorem cut_take {α : Type} (xs : List α) (p : Nat) (h : p ≤ xs.length) : cut xs none (some (p : Int)) = xs.take p := by
  have h0 : ¬ (p : Int) < 0 := by omega
  have h1 : sIx xs.length xs.length (some (p : Int)) = p := by
    rw [sIx, if_neg h0, Int.toNat_natCast]
    omega
  rw [cut, h1]
  rfl
theorem call2r (C : Cl) (g : Nat) (a b : Ex) (P Y : PV) (r : RV) (ρ : Env) (ha : evAs G C [(.val, a), (.val, b)] ρ = some ([.val P, .val Y], ρ)) (hc : C g [(false, P), (false, Y)] = some (r, [])) : evE G C (.call g [(.val, a), (.val, b)]) ρ = some (r, ρ) := by
  rw [x_call, ha, Option.bind_some]
  simp [slots, avGet, avPut, hc]
end EV.Law
set_option linter.all false
set_option maxRecDepth 100000
namespace EV.Law
open PySem EV
/-! ### reading, by the program -/
theorem eqOk_flat {x y : PV} (hx : x.flat = true) (hy : y.flat = true) (hd : y.dep ≤ 60) : eqOk x y = true := by
  have h : min x.dep y.dep ≤ 60 := Nat.le_trans (Nat.min_le_right _ _) hd
  unfold eqOk
  rw [hx, hy, decide_eq_true h]
  simp
theorem flat_l : PV.flat (.str "head") = true ∧ PV.flat (.str "tag") = true ∧ PV.flat (.str "room") = true ∧ PV.flat (.str "over") = true ∧ PV.flat (.str "length") = true ∧ PV.flat (.str "second") = true ∧ PV.flat (.str "body") = true ∧ PV.flat (.str "sum") = true := by decide +kernel
theorem flat_sd (st : Sd) : PV.flat st.pv = true := by
  obtain ⟨h1, h2, h3, h4, h5, h6, h7, h8⟩ := flat_l
  cases st with
  | head k => exact (Bool.and_eq_true_iff.mpr ⟨h1, rfl⟩ : (PV.flat (.str "head") && _) = true)
  | tag => exact (Bool.and_eq_true_iff.mpr ⟨h2, rfl⟩ : (PV.flat (.str "tag") && _) = true)
  | room => exact (Bool.and_eq_true_iff.mpr ⟨h3, rfl⟩ : (PV.flat (.str "room") && _) = true)
  | over => exact (Bool.and_eq_true_iff.mpr ⟨h4, rfl⟩ : (PV.flat (.str "over") && _) = true)
  | len u => exact (Bool.and_eq_true_iff.mpr ⟨h5, Bool.and_eq_true_iff.mpr ⟨flat_u u, rfl⟩⟩ : (PV.flat (.str "length") && _) = true)
  | sec u x => exact (Bool.and_eq_true_iff.mpr ⟨h6, Bool.and_eq_true_iff.mpr ⟨flat_u u, rfl⟩⟩ : (PV.flat (.str "second") && _) = true)
  | body u l t => exact (Bool.and_eq_true_iff.mpr ⟨h7, Bool.and_eq_true_iff.mpr ⟨flat_u u, rfl⟩⟩ : (PV.flat (.str "body") && _) = true)
  | sum t => exact (Bool.and_eq_true_iff.mpr ⟨h8, rfl⟩ : (PV.flat (.str "sum") && _) = true)
theorem dep_sd (st : Sd) : st.pv.dep ≤ 60 := by
  cases st <;> (show _ ≤ 60; simp [Sd.pv, PV.dep, deps])
theorem eqOk_sd (a st : Sd) : eqOk a.pv st.pv = true := eqOk_flat (flat_sd a) (flat_sd st) (dep_sd st)
def isTag : Sd → Bool
  | .tag => true | _ => false
def isRO : Sd → Bool
  | .room => true | .over => true | _ => false
theorem pq_room (st : Sd) : (peq (.tup [.str "room"]) st.pv || peq (.tup [.str "over"]) st.pv) = isRO st := by
  cases st <;> simp (decide := true) [Sd.pv, peq, peqs, isRO]
theorem pq_tag (st : Sd) : peq st.pv (.tup [.str "tag"]) = isTag st := by
  cases st <;> simp (decide := true) [Sd.pv, peq, peqs, isTag]
theorem w_room (st : Sd) : within false st.pv (.tup [.tup [.str "room"], .tup [.str "over"]]) = some (isRO st) := by
  have h : ([PV.tup [.str "room"], .tup [.str "over"]].all fun y => eqOk y st.pv) = true := by
    have h1 := eqOk_sd .room st
    have h2 := eqOk_sd .over st
    simp only [List.all_cons, List.all_nil, Bool.and_true]
    exact Bool.and_eq_true_iff.mpr ⟨h1, h2⟩
  show (if ([PV.tup [.str "room"], .tup [.str "over"]].all fun y => eqOk y st.pv) = true then _ else none) = _
  rw [if_pos h, ← pq_room st]
  simp
theorem c_tag (st : Sd) : cmpOp .eq st.pv (.tup [.str "tag"]) = some (isTag st) := by
  show (if eqOk st.pv (.tup [.str "tag"]) = true then some (peq st.pv (.tup [.str "tag"])) else none) = _
  have h : eqOk st.pv (.tup [.str "tag"]) = true := eqOk_sd st .tag
  rw [if_pos h, pq_tag]
/-- a comparison of a slot that holds data with a global -/
theorem cmp_vg {C : Cl} {op : COp} {i n : Nat} {ρ : Env} {x y : PV} {b : Bool} (h : peek i ρ = some x) (hg : G[n]? = some y) (hc : cmpOp op x y = some b) : evE G C (.cmp op (.var i) (.glo n)) ρ = some (.fz (.bl b), ρ) := by
  have h1 : bw (.var i) (evE G C (.var i) ρ) ρ = some (.slot i, ρ) := by
    show (peek i ρ).map (fun _ => (Bw.slot i, ρ)) = _
    rw [h]; rfl
  rw [x_cmp, h1, Option.bind_some, x_glo, hg]
  show (deref (.slot i) ρ).bind _ = _
  rw [d_slot, h, Option.bind_some]
  show ((cmpOp op x y).map _) = _
  rw [hc]
  rfl
theorem e_is_ending (k : Nat) (f : Fm) (hf : f.Ok) (st : Sd) : evCl G F (k + 1) c_is_ending [(false, f.pv), (false, st.pv)] = some (.fz (.bl (endS f st)), []) := by
  refine (u_is_ending k _).trans ?_
  generalize evCl G F k = C
  have hm : f_is_ending.m = 4 := rfl
  have hbd : f_is_ending.body = [.ite (.cmp .isin (.var 1) (.tup [(.val, (.glo g_ROOM)), (.val, (.glo g_OVER))])) [.ret (.lit (.bl true))] [], .ret (.ands [(.cmp .eq (.var 1) (.glo g_TAG)), (.not (.bi .any [(.ref, (.comp (.cmp .isin (.var 3) (.tup [(.val, (.glo g_END)), (.val, (.glo g_STOP))])) [2, 3] (.tup [(.name 2), (.name 3)]) (.ex (.idx (.var 0) (.lit (.int 4)))) []))]))])] := rfl
  have h0 : startE 4 [(false, f.pv), (false, st.pv)] = [.fz f.pv, .fz st.pv, .un, .un] := rfl
  generalize hρ : ([.fz f.pv, .fz st.pv, .un, .un] : Env) = ρ
  have e1 : evE G C (.cmp .isin (.var 1) (.tup [(.val, (.glo g_ROOM)), (.val, (.glo g_OVER))])) ρ = some (.fz (.bl (isRO st)), ρ) := by
    have ht : evE G C (.tup [(.val, (.glo g_ROOM)), (.val, (.glo g_OVER))]) ρ = some (.fz (.tup [.tup [.str "room"], .tup [.str "over"]]), ρ) := by
      rw [x_tup, a_val, x_glo, v_ROOM, Option.map_some, Option.bind_some, a_val, x_glo, v_OVER, Option.map_some, Option.bind_some, a_nil]
      rfl
    have h1 : bw (.var 1) (evE G C (.var 1) ρ) ρ = some (.slot 1, ρ) := by subst hρ; rfl
    have h2 : deref (.slot 1) ρ = some st.pv := by subst hρ; rfl
    rw [x_cmp, h1, Option.bind_some, ht]
    show (deref (.slot 1) ρ).bind _ = _
    rw [h2, Option.bind_some]
    show ((within false st.pv (.tup [.tup [.str "room"], .tup [.str "over"]])).map _) = _
    rw [w_room]
    rfl
  have e2 : evE G C (.cmp .eq (.var 1) (.glo g_TAG)) ρ = some (.fz (.bl (isTag st)), ρ) := cmp_vg (by subst hρ; rfl) v_TAG (c_tag st)
  have e3 : evE G C (.comp (.cmp .isin (.var 3) (.tup [(.val, (.glo g_END)), (.val, (.glo g_STOP))])) [2, 3] (.tup [(.name 2), (.name 3)]) (.ex (.idx (.var 0) (.lit (.int 4)))) []) ρ = some (.fr (.lst (f.tg.map fun r => .bl (endU r.2))), ρ) := by
    subst hρ
    refine x_comp (items := f.tg.map row) (ρ1 := [.fz f.pv, .fz st.pv, .un, .un]) (ρ2 := [.fz f.pv, .fz st.pv, .un, .un]) rfl rfl ?_ rfl
    have hm := comp_map (turn := cT G C (.cmp .isin (.var 3) (.tup [(.val, (.glo g_END)), (.val, (.glo g_STOP))])) [2, 3] (.tup [(.name 2), (.name 3)]) []) (f := fun r => .bl (endU r.2)) (enc := row) (ρ := [.fz f.pv, .fz st.pv, .un, .un]) f.tg [] (fun r _ => ?_) (by have := hf.tl; unfold LIM; simp; omega)
    · exact hm
    · obtain ⟨s, u⟩ := r
      cases u <;> simp (decide := true) [cT, evTs, wipe, fn_eq, startE, slotOf, q_nil, q_cons, th_nx, th_rt, th_br, th_ct, th_if, s_asgN, s_asgT, s_par, p_nil, p_cons, s_expr, s_ret, s_retN, s_ite, s_setIdx, s_app, setAt, appTo, x_lit, x_glo, x_var, x_tup, x_lst, x_bin, x_neg, x_cmp, x_chain, x_ands, x_ors, x_and1, x_or1, andK_bl, orK_bl, x_and2, x_or2, x_not, x_ite, x_idx, sliceOf, x_slc, x_call, x_callK, x_bi, x_isi, x_rng1, x_rng2, a_nil, a_val, a_ref, k_nil, k_cons, o_none, o_some, val_fz, val_fr, d_slot, d_val, ds_nil, ds_cons, t_some, bw, use, peek, put, modify, truthy, isStr, avGet, avPut, slots, vals?, cmpOp, ords, isIt, isNon, within, b_add, b_sub, b_catT, b_catL, bias, biEv, tyOf, flRv, finE, mkSeq, PV.int?, PV.seq?, PV.lst?, ints?, bindP, bindPs, rangeItems, pick, eo_ii, eo_ss, eo_bb, eo_sn, eo_in, eo_ni, eo_ns, eo_nn, pq_ii, pq_ss, pq_bb, pq_in, pq_ni, pq_sn, pq_ns, pq_nn, row, ixN, U.str, endU, LIM, v_END, v_STOP]
  have e4 : evE G C (.bi .any [(.ref, (.comp (.cmp .isin (.var 3) (.tup [(.val, (.glo g_END)), (.val, (.glo g_STOP))])) [2, 3] (.tup [(.name 2), (.name 3)]) (.ex (.idx (.var 0) (.lit (.int 4)))) []))]) ρ = some (.fz (.bl (endsF f)), ρ) := by
    rw [x_bi, a_ref, e3]
    show ((bools? (f.tg.map fun r => PV.bl (endU r.2))).map fun bs => RV.fz (.bl (bs.any id))).map _ = _
    rw [bools_map]
    show some (RV.fz (.bl ((f.tg.map fun r => endU r.2).any id)), ρ) = _
    rw [List.any_map]
    rfl
  have et : tst (evE G C (.cmp .isin (.var 1) (.tup [(.val, (.glo g_ROOM)), (.val, (.glo g_OVER))])) ρ) = some (isRO st, ρ) := by rw [e1]; rfl
  rw [fn_eq, if_pos (by rw [hm]; show 2 ≤ 4; omega), hm, hbd, h0, hρ, q_cons, s_ite, et, Option.bind_some]
  by_cases hro : isRO st = true
  · rw [if_pos hro]
    have : endS f st = true := by cases st <;> first | rfl | (exfalso; simp [isRO] at hro)
    rw [this]
    subst hρ
    rfl
  · rw [if_neg hro, q_nil, th_nx, q_cons, s_ret, x_ands, x_and2, e2, andK_bl]
    by_cases htg : isTag st = true
    · rw [if_pos htg, x_and1, x_not, e4]
      have : endS f st = !endsF f := by cases st <;> first | rfl | (exfalso; simp [isTag] at htg)
      rw [this]
      subst hρ
      rfl
    · rw [if_neg htg]
      have : endS f st = false := by cases st <;> first | rfl | (exfalso; exact hro rfl) | (exfalso; exact htg rfl)
      rw [this]
      subst hρ
      rfl
theorem e_word_at (k : Nat) (f : Fm) (st : Sd) (x : Int) (h : stepS f st x = none) : evCl G F (k + 1) c_word_at [(false, st.pv)] = some (.fz (.str (wordS st)), []) := by
  refine (u_word_at k _).trans ?_
  cases st <;> first | rfl | (exfalso; simp [stepS] at h)
/-! the refusal -/
def rfBody : List Sm := [.asg (.name 5) (.call c_step [(.val, (.var 0)), (.val, (.var 2)), (.val, (.var 4))]),
     .ite (.cmp .is (.var 5) (.lit .non))
       [.ret (.tup [(.val, (.var 3)), (.val, (.call c_word_at [(.val, (.var 2))]))])]
       [],
     .asg (.name 2) (.var 5)]
def RF (f : Fm) (xs : PV) (st : Sd) (o3 o4 o5 : Option PV) : Env := [.fz f.pv, .fz xs, .fz st.pv, sl o3, sl o4, sl o5]
theorem rf_turn (k : Nat) (f : Fm) (hf : f.Ok) (xs : PV) (st : Sd) (ho : sdOk f (some st)) (p : Nat) (x : Int) (o3 o4 o5 : Option PV) :
    fT G (evCl G F (k + 3)) (.tup [(.name 3), (.name 4)]) rfBody (.tup [.int (p : Int), .int x]) (RF f xs st o3 o4 o5) = match stepS f st x with
      | none => some (.rt (.fz (.tup [.int (p : Int), .str (wordS st)])), RF f xs st (some (.int (p : Int))) (some (.int x)) (some .non))
      | some st' => some (.nx, RF f xs st' (some (.int (p : Int))) (some (.int x)) (some st'.pv)) := by
  have hs := e_step k f hf st ho x
  cases hq : stepS f st x with
  | none =>
    have hw := e_word_at (k + 2) f st x hq
    rw [hq] at hs
    unfold RF
    generalize st.pv = z at hs hw ⊢
    cases o3 <;> cases o4 <;> cases o5 <;> simp [fT, rfBody, RF, fn_eq, startE, slotOf, q_nil, q_cons, th_nx, th_rt, th_br, th_ct, th_if, s_asgN, s_asgT, s_par, p_nil, p_cons, s_expr, s_ret, s_retN, s_ite, s_setIdx, s_app, setAt, appTo, x_lit, x_glo, x_var, x_tup, x_lst, x_bin, x_neg, x_cmp, x_chain, x_ands, x_ors, x_and1, x_or1, andK_bl, orK_bl, x_and2, x_or2, x_not, x_ite, x_idx, sliceOf, x_slc, x_call, x_callK, x_bi, x_isi, x_rng1, x_rng2, a_nil, a_val, a_ref, k_nil, k_cons, o_none, o_some, val_fz, val_fr, d_slot, d_val, ds_nil, ds_cons, t_some, bw, use, peek, put, modify, truthy, isStr, avGet, avPut, slots, vals?, cmpOp, ords, isIt, isNon, within, b_add, b_sub, b_catT, b_catL, bias, biEv, tyOf, flRv, finE, mkSeq, PV.int?, PV.seq?, PV.lst?, ints?, bindP, bindPs, rangeItems, pick, eo_ii, eo_ss, eo_bb, eo_sn, eo_in, eo_ni, eo_ns, eo_nn, pq_ii, pq_ss, pq_bb, pq_in, pq_ni, pq_sn, pq_ns, pq_nn, sl, hs, hw, osd, LIM]
  | some st' =>
    rw [hq] at hs
    obtain ⟨ws, hws⟩ : ∃ ws, st'.pv = .tup ws := by cases st' <;> exact ⟨_, rfl⟩
    unfold RF
    show _ = some (Fl.nx, _)
    generalize st.pv = z at hs ⊢
    have hs : evCl G F (k + 3) c_step [(false, f.pv), (false, z), (false, .int x)] = some (.fz st'.pv, []) := hs
    rw [hws] at hs ⊢
    cases o3 <;> cases o4 <;> cases o5 <;> simp [fT, rfBody, fn_eq, startE, slotOf, q_nil, q_cons, th_nx, th_rt, th_br, th_ct, th_if, s_asgN, s_asgT, s_par, p_nil, p_cons, s_expr, s_ret, s_retN, s_ite, s_setIdx, s_app, setAt, appTo, x_lit, x_glo, x_var, x_tup, x_lst, x_bin, x_neg, x_cmp, x_chain, x_ands, x_ors, x_and1, x_or1, andK_bl, orK_bl, x_and2, x_or2, x_not, x_ite, x_idx, sliceOf, x_slc, x_call, x_callK, x_bi, x_isi, x_rng1, x_rng2, a_nil, a_val, a_ref, k_nil, k_cons, o_none, o_some, val_fz, val_fr, d_slot, d_val, ds_nil, ds_cons, t_some, bw, use, peek, put, modify, truthy, isStr, avGet, avPut, slots, vals?, cmpOp, ords, isIt, isNon, within, b_add, b_sub, b_catT, b_catL, bias, biEv, tyOf, flRv, finE, mkSeq, PV.int?, PV.seq?, PV.lst?, ints?, bindP, bindPs, rangeItems, pick, eo_ii, eo_ss, eo_bb, eo_sn, eo_in, eo_ni, eo_ns, eo_nn, pq_ii, pq_ss, pq_bb, pq_in, pq_ni, pq_sn, pq_ns, pq_nn, sl, hs, LIM]
theorem rf_loop (k : Nat) (f : Fm) (hf : f.Ok) (xv : PV) : ∀ (xs : List Int) (p : Nat) (st : Sd) (T : List (Int × List Int)) (B : List Nat) (o3 o4 o5 : Option PV), sdOk f (some st) →
    (∃ q w ρ', forLoop (fT G (evCl G F (k + 3)) (.tup [(.name 3), (.name 4)]) rfBody) (enumItems p (xs.map PV.int)) (RF f xv st o3 o4 o5) = some (.rt (.fz (.tup [.int ((q : Nat) : Int), .str w])), .fz f.pv :: .fz xv :: ρ') ∧ rd f st p T B xs = .bad q w) ∨
    (∃ st' T' B' q3 q4 q5, forLoop (fT G (evCl G F (k + 3)) (.tup [(.name 3), (.name 4)]) rfBody) (enumItems p (xs.map PV.int)) (RF f xv st o3 o4 o5) = some (.nx, RF f xv st' q3 q4 q5) ∧ rd f st p T B xs = rd f st' (p + xs.length) T' B' [] ∧ sdOk f (some st'))
  | [], p, st, T, B, o3, o4, o5, ho => .inr ⟨st, T, B, o3, o4, o5, rfl, rfl, ho⟩
  | x :: xs, p, st, T, B, o3, o4, o5, ho => by
    have ht := rf_turn k f hf xv st ho p x o3 o4 o5
    rw [List.map_cons]
    show (∃ q w ρ', forLoop _ (.tup [.int (p : Int), .int x] :: enumItems (p + 1) (xs.map PV.int)) _ = _ ∧ _) ∨ (∃ st' T' B' q3 q4 q5, forLoop _ (.tup [.int (p : Int), .int x] :: enumItems (p + 1) (xs.map PV.int)) _ = _ ∧ _)
    rw [forLoop, ht]
    cases hq : stepS f st x with
    | none =>
      left
      exact ⟨p, wordS st, _, rfl, rd_stop hq⟩
    | some st' =>
      have hst := step_ok f st x
      rw [hq] at hst
      rw [rd_step hq]
      rcases rf_loop k f hf xv xs (p + 1) st' (tellS f st x T) (if lookS f st then B else B ++ [p]) (some (.int (p : Int))) (some (.int x)) (some st'.pv) hst with ⟨q, w, ρ', e1, e2⟩ | ⟨s2, T', B', q3, q4, q5, e1, e2, e3⟩
      · exact .inl ⟨q, w, ρ', e1, e2⟩
      · refine .inr ⟨s2, T', B', q3, q4, q5, e1, ?_, e3⟩
        rw [e2]
        have e : p + 1 + xs.length = p + (x :: xs).length := by simp; omega
        rw [e]
def R.rf : R → PV
  | .ok _ _ => .non
  | .bad p w => .tup [.int (p : Int), .str w]
theorem e_refusal_of (k : Nat) (f : Fm) (hf : f.Ok) (xs : List Int) : evCl G F (k + 4) c_refusal_of [(false, f.pv), (false, sg xs)] = some (.fz (R.rf (rd f (firstS f) 0 [] [] xs)), []) := by
  refine (u_refusal_of (k + 3) _).trans ?_
  have hm : f_refusal_of.m = 6 := rfl
  have hbd : f_refusal_of.body = [.asg (.name 2) (.call c_first_stand [(.val, (.var 0))]), .for_ (.tup [(.name 3), (.name 4)]) (.enum (.var 1)) rfBody, .ret (.ite (.call c_is_ending [(.val, (.var 0)), (.val, (.var 2))]) (.lit .non) (.tup [(.val, (.bi .len [(.ref, (.var 1))])), (.val, (.glo g_SHORT))]))] := rfl
  have h1 : evS G (evCl G F (k + 3)) (.asg (.name 2) (.call c_first_stand [(.val, (.var 0))])) (startE 6 [(false, f.pv), (false, sg xs)]) = some (.nx, RF f (sg xs) (firstS f) none none none) := by
    have hs := e_first (k + 2) f
    unfold RF
    generalize (firstS f).pv = z at hs ⊢
    simp [fn_eq, startE, slotOf, q_nil, q_cons, th_nx, th_rt, th_br, th_ct, th_if, s_asgN, s_asgT, s_par, p_nil, p_cons, s_expr, s_ret, s_retN, s_ite, s_setIdx, s_app, setAt, appTo, x_lit, x_glo, x_var, x_tup, x_lst, x_bin, x_neg, x_cmp, x_chain, x_ands, x_ors, x_and1, x_or1, andK_bl, orK_bl, x_and2, x_or2, x_not, x_ite, x_idx, sliceOf, x_slc, x_call, x_callK, x_bi, x_isi, x_rng1, x_rng2, a_nil, a_val, a_ref, k_nil, k_cons, o_none, o_some, val_fz, val_fr, d_slot, d_val, ds_nil, ds_cons, t_some, bw, use, peek, put, modify, truthy, isStr, avGet, avPut, slots, vals?, cmpOp, ords, isIt, isNon, within, b_add, b_sub, b_catT, b_catL, bias, biEv, tyOf, flRv, finE, mkSeq, PV.int?, PV.seq?, PV.lst?, ints?, bindP, bindPs, rangeItems, pick, eo_ii, eo_ss, eo_bb, eo_sn, eo_in, eo_ni, eo_ns, eo_nn, pq_ii, pq_ss, pq_bb, pq_in, pq_ni, pq_sn, pq_ns, pq_nn, hs, sl]
  have hi : evI G (evCl G F (k + 3)) (.enum (.var 1)) (RF f (sg xs) (firstS f) none none none) = some (enumItems 0 (xs.map PV.int), RF f (sg xs) (firstS f) none none none) := rfl
  rw [fn_eq, if_pos (by rw [hm]; show 2 ≤ 6; omega), hm, hbd, q_cons, h1, th_nx, q_cons, s_for, hi, Option.bind_some]
  rcases rf_loop k f hf (sg xs) xs 0 (firstS f) [] [] none none none (first_ok f) with ⟨q, w, ρ', e1, e2⟩ | ⟨st', T', B', q3, q4, q5, e1, e2, e3⟩
  · rw [e1, e2]
    rfl
  · rw [e1, th_nx, q_cons, s_ret, e2, rd_nil, Nat.zero_add]
    have he := e_is_ending (k + 2) f hf st'
    have hc : evE G (evCl G F (k + 3)) (.call c_is_ending [(.val, (.var 0)), (.val, (.var 2))]) (RF f (sg xs) st' q3 q4 q5) = some (.fz (.bl (endS f st')), RF f (sg xs) st' q3 q4 q5) := call2 _ _ _ _ f.pv st'.pv _ _ rfl he
    rw [x_ite, hc]
    cases hend : endS f st' with
    | true => rfl
    | false =>
      have ht : evE G (evCl G F (k + 3)) (.tup [(.val, (.bi .len [(.ref, (.var 1))])), (.val, (.glo g_SHORT))]) (RF f (sg xs) st' q3 q4 q5) = some (.fz (.tup [.int ((xs.map PV.int).length : Int), .str "short"]), RF f (sg xs) st' q3 q4 q5) := by
        have hl : evE G (evCl G F (k + 3)) (.bi .len [(.ref, (.var 1))]) (RF f (sg xs) st' q3 q4 q5) = some (.fz (.int ((xs.map PV.int).length : Int)), RF f (sg xs) st' q3 q4 q5) := rfl
        rw [x_tup, a_val, hl, Option.bind_some, a_val, x_glo, v_SHORT, Option.map_some, Option.bind_some, a_nil]
        rfl
      have e5 : R.rf (if false = true then R.ok T' B' else .bad xs.length "short") = .tup [.int ((xs.map PV.int).length : Int), .str "short"] := by
        rw [List.length_map]
        rfl
      rw [e5]
      show ((thenS ((evE G (evCl G F (k + 3)) (.tup [(.val, (.bi .len [(.ref, (.var 1))])), (.val, (.glo g_SHORT))]) (RF f (sg xs) st' q3 q4 q5)).map _) _).bind _) = _
      rw [ht]
      rfl
end EV.Law
set_option linter.all false
set_option maxRecDepth 100000
namespace EV.Law
open PySem EV
/-! ### what is told -/
def tinv (st : Sd) (T : List (Int × List Int)) : Prop := match st with
  | .len u => isTold u = true → T ≠ []
  | .sec u _ => isTold u = true → T ≠ []
  | .body u _ _ => isTold u = true → T ≠ []
  | _ => True
theorem cmp_val {C : Cl} {op : COp} {a b : Ex} {ρ ρ1 ρ2 : Env} {x y : PV} {r : Bool} (ha : bw a (evE G C a ρ) ρ = some (.val x, ρ1)) (hb : bw b (evE G C b ρ1) ρ1 = some (.val y, ρ2)) (hc : cmpOp op x y = some r) : evE G C (.cmp op a b) ρ = some (.fz (.bl r), ρ2) := by
  rw [x_cmp, ha, Option.bind_some, hb, Option.bind_some]
  show ((cmpOp op x y).map _) = _
  rw [hc]
  rfl
theorem w_told (u : U) : cmpOp .isin (.str u.str) (.tup [.str "keep", .str "check"]) = some (isTold u) := by
  cases u <;> rfl
theorem w_toldO (o : Option U) : cmpOp .isin (ouse o) (.tup [.str "keep", .str "check"]) = some (match o with | some u => isTold u | none => false) := by
  cases o with
  | none => rfl
  | some u => exact w_told u
def taC1 : Ex := .ands [(.cmp .eq (.var 1) (.glo g_TAG)), (.cmp .isin (.call c_use_at [(.val, (.var 0)), (.val, (.var 2))]) (.glo g_TOLD))]
def taC2 : Ex := .ands [(.cmp .eq (.idx (.var 1) (.lit (.int 0))) (.lit (.str "body"))), (.cmp .isin (.idx (.var 1) (.lit (.int 1))) (.glo g_TOLD))]
def TA_ (f : Fm) (st : Sd) (s : Int) (T : List (Int × List Int)) : Env := [.fz f.pv, .fz st.pv, .fz (.int s), .fz (.tup (T.map chV)), .un, .un, .un]
def toldTag (f : Fm) (st : Sd) (s : Int) : Bool := match st with
  | .tag => (match useAt f s with | some u => isTold u | none => false)
  | _ => false
def toldBody (st : Sd) : Bool := match st with
  | .body u _ _ => isTold u
  | _ => false
theorem ta_c1 (k : Nat) (f : Fm) (st : Sd) (s : Int) (T : List (Int × List Int)) : tst (evE G (evCl G F (k + 1)) taC1 (TA_ f st s T)) = some (toldTag f st s, TA_ f st s T) := by
  have e1 : evE G (evCl G F (k + 1)) (.cmp .eq (.var 1) (.glo g_TAG)) (TA_ f st s T) = some (.fz (.bl (isTag st)), TA_ f st s T) := cmp_vg rfl v_TAG (c_tag st)
  rw [taC1, x_ands, x_and2, e1, andK_bl]
  by_cases h : isTag st = true
  · have hst : st = .tag := by cases st <;> first | rfl | cases h
    subst hst
    rw [if_pos h, x_and1]
    have hu := e_use_at k f s
    have hc : evE G (evCl G F (k + 1)) (.call c_use_at [(.val, (.var 0)), (.val, (.var 2))]) (TA_ f .tag s T) = some (.fz (ouse (useAt f s)), TA_ f .tag s T) := call2 _ _ _ _ f.pv (.int s) _ _ rfl hu
    have hr := cmp_val (op := .isin) (a := .call c_use_at [(.val, (.var 0)), (.val, (.var 2))]) (b := .glo g_TOLD) (C := evCl G F (k + 1)) (ρ := TA_ f .tag s T) (by rw [hc]; rfl) (by rw [x_glo, v_TOLD]; rfl) (w_toldO (useAt f s))
    rw [hr]
    rfl
  · rw [if_neg h]
    have : toldTag f st s = false := by cases st <;> first | rfl | exact absurd rfl h
    rw [this]
    rfl
theorem ta_c2 (C : Cl) (f : Fm) (st : Sd) (s : Int) (T : List (Int × List Int)) : tst (evE G C taC2 (TA_ f st s T)) = some (toldBody st, TA_ f st s T) := by
  cases st with
  | body u l t =>
    have h2 : evE G C (.cmp .isin (.idx (.var 1) (.lit (.int 1))) (.glo g_TOLD)) (TA_ f (.body u l t) s T) = some (.fz (.bl (isTold u)), TA_ f (.body u l t) s T) := by
      have h1 : evE G C (.idx (.var 1) (.lit (.int 1))) (TA_ f (.body u l t) s T) = some (.fz (.str u.str), TA_ f (.body u l t) s T) := rfl
      exact cmp_val (by rw [h1]; rfl) (by rw [x_glo, v_TOLD]; rfl) (w_told u)
    have h3 : evE G C (.cmp .eq (.idx (.var 1) (.lit (.int 0))) (.lit (.str "body"))) (TA_ f (.body u l t) s T) = some (.fz (.bl true), TA_ f (.body u l t) s T) := rfl
    rw [taC2, x_ands, x_and2, h3, andK_bl, if_pos rfl, x_and1, h2]
    rfl
  | _ => rfl
theorem e_told_at (k : Nat) (f : Fm) (st : Sd) (s : Int) (T : List (Int × List Int)) (hi : tinv st T) (hl : T.length ≤ 1000000) (hb : ∀ c ∈ T, c.2.length ≤ 1000000) :
    evCl G F (k + 2) c_told_at [(false, f.pv), (false, st.pv), (false, .int s), (false, .tup (T.map chV))] = some (.fz (.tup ((tellS f st s T).map chV)), []) := by
  refine (u_told_at (k + 1) _).trans ?_
  have hm : f_told_at.m = 7 := rfl
  have hbd : f_told_at.body = [.ite taC1 [.ret (.tup [(.star, (.var 3)), (.val, (.tup [(.val, (.var 2)), (.val, (.tup []))]))])] [], .ite taC2 [.star 4 [(.tup [(.name 5), (.name 6)])] (.var 3), .ret (.tup [(.star, (.var 4)), (.val, (.tup [(.val, (.var 5)), (.val, (.tup [(.star, (.var 6)), (.val, (.var 2))]))]))])] [], .ret (.var 3)] := rfl
  have h0 : startE 7 [(false, f.pv), (false, st.pv), (false, .int s), (false, .tup (T.map chV))] = TA_ f st s T := rfl
  rw [fn_eq, if_pos (by rw [hm]; show 4 ≤ 7; omega), hm, hbd, h0, q_cons, s_ite, ta_c1, Option.bind_some]
  by_cases h1 : toldTag f st s = true
  · rw [if_pos h1]
    have ht : tellS f st s T = T ++ [(s, [])] := by
      cases st <;> first | (exfalso; cases h1; done) | skip
      unfold toldTag at h1
      unfold tellS
      cases hu : useAt f s with
      | none => rw [hu] at h1; cases h1
      | some u =>
        rw [hu] at h1
        simp only [] at h1 ⊢
        rw [if_pos h1]
    rw [ht]
    have e1 : evE G (evCl G F (k + 1)) (.tup [(.val, (.var 2)), (.val, (.tup []))]) (TA_ f st s T) = some (.fz (chV (s, [])), TA_ f st s T) := by
      rw [x_tup, a_val]
      rfl
    have e2 : evE G (evCl G F (k + 1)) (.tup [(.star, (.var 3)), (.val, (.tup [(.val, (.var 2)), (.val, (.tup []))]))]) (TA_ f st s T) = some (.fz (.tup ((T ++ [(s, [])]).map chV)), TA_ f st s T) := by
      have e3 : evE G (evCl G F (k + 1)) (.var 3) (TA_ f st s T) = some (.fz (.tup (T.map chV)), TA_ f st s T) := rfl
      rw [x_tup, a_star, e3, Option.bind_some]
      show ((some (T.map chV)).bind fun xs => _).bind _ = _
      rw [Option.bind_some, a_val, e1, Option.bind_some, a_nil, Option.map_some, Option.map_some, Option.bind_some]
      show (vals? ((T.map chV).map .val ++ [.val (chV (s, []))])).bind _ = _
      rw [vals_app]
      show (some (T.map chV ++ [chV (s, [])])).bind _ = _
      rw [Option.bind_some, if_pos (by rw [List.length_append, List.length_map]; show T.length + 1 ≤ LIM; unfold LIM; omega), List.map_append]
      rfl
    rw [q_cons, s_ret, e2]
    rfl
  · rw [if_neg h1, q_nil, th_nx, q_cons, s_ite, ta_c2, Option.bind_some]
    by_cases h2 : toldBody st = true
    · rw [if_pos h2]
      cases st <;> first | (exfalso; cases h2; done) | skip
      rename_i u l t
      have hu : isTold u = true := h2
      obtain ⟨T0, c, rfl⟩ : ∃ T0 c, T = T0 ++ [c] := ⟨T.dropLast, T.getLast (hi hu), (List.dropLast_concat_getLast (hi hu)).symm⟩
      obtain ⟨c1, zs⟩ := c
      have ht : tellS f (.body u l t) s (T0 ++ [(c1, zs)]) = T0 ++ [(c1, zs ++ [s])] := by
        show (if isTold u then addLast (T0 ++ [(c1, zs)]) s else T0 ++ [(c1, zs)]) = _
        rw [if_pos hu, addLast_app]
      have hzs : zs.length ≤ 1000000 := hb (c1, zs) (List.mem_append_right _ List.mem_cons_self)
      have hT0 : T0.length + 1 ≤ 1000000 := by rw [List.length_append] at hl; exact hl
      rw [ht]
      generalize hρ : ([.fz f.pv, .fz (Sd.body u l t).pv, .fz (.int s), .fz (.tup ((T0 ++ [(c1, zs)]).map chV)), .ow (.lst (T0.map chV)), .fz (.int c1), .fz (sg zs)] : Env) = ρ
      have e1 : evS G (evCl G F (k + 1)) (.star 4 [(.tup [(.name 5), (.name 6)])] (.var 3)) (TA_ f (.body u l t) s (T0 ++ [(c1, zs)])) = some (.nx, ρ) := by
        have e3 : evE G (evCl G F (k + 1)) (.var 3) (TA_ f (.body u l t) s (T0 ++ [(c1, zs)])) = some (.fz (.tup ((T0 ++ [(c1, zs)]).map chV)), TA_ f (.body u l t) s (T0 ++ [(c1, zs)])) := rfl
        rw [s_star, e3, Option.bind_some]
        show ((some ((T0 ++ [(c1, zs)]).map chV)).bind _) = _
        rw [Option.bind_some]
        have hn : ((T0 ++ [(c1, zs)]).map chV).length = T0.length + 1 := by rw [List.length_map, List.length_append]; rfl
        have ha : (T0 ++ [(c1, zs)]).map chV = T0.map chV ++ [chV (c1, zs)] := List.map_append
        have hT : ((T0 ++ [(c1, zs)]).map chV).take (T0.length + 1 - 1) = T0.map chV := by
          rw [ha, Nat.add_sub_cancel]
          exact List.take_left' (by rw [List.length_map])
        have hD : ((T0 ++ [(c1, zs)]).map chV).drop (T0.length + 1 - 1) = [chV (c1, zs)] := by
          rw [ha, Nat.add_sub_cancel]
          exact List.drop_left' (by rw [List.length_map])
        rw [hn]
        show (if 1 ≤ T0.length + 1 then (put 4 (.fr (.lst (((T0 ++ [(c1, zs)]).map chV).take (T0.length + 1 - 1)))) _).bind _ else none) = _
        rw [if_pos (by omega), hT]
        show (some _).bind _ = _
        rw [Option.bind_some]
        show (bindPs [(.tup [(.name 5), (.name 6)])] (((T0 ++ [(c1, zs)]).map chV).drop (T0.length + 1 - 1)) _).map _ = _
        rw [hD, ← hρ]
        rfl
      have e5 : evE G (evCl G F (k + 1)) (.tup [(.star, (.var 6)), (.val, (.var 2))]) (ρ.set 4 (.fz (.lst (T0.map chV)))) = some (.fz (sg (zs ++ [s])), ρ.set 4 (.fz (.lst (T0.map chV)))) := by
        have e6 : evE G (evCl G F (k + 1)) (.var 6) (ρ.set 4 (.fz (.lst (T0.map chV)))) = some (.fz (sg zs), ρ.set 4 (.fz (.lst (T0.map chV)))) := by subst hρ; rfl
        have e7 : evE G (evCl G F (k + 1)) (.var 2) (ρ.set 4 (.fz (.lst (T0.map chV)))) = some (.fz (.int s), ρ.set 4 (.fz (.lst (T0.map chV)))) := by subst hρ; rfl
        rw [x_tup, a_star, e6, Option.bind_some]
        show ((some (zs.map PV.int)).bind fun xs => _).bind _ = _
        rw [Option.bind_some, a_val, e7, Option.bind_some, a_nil, Option.map_some, Option.map_some, Option.bind_some]
        show (vals? ((zs.map PV.int).map .val ++ [.val (.int s)])).bind _ = _
        rw [vals_app]
        show (some (zs.map PV.int ++ [.int s])).bind _ = _
        rw [Option.bind_some, if_pos (by rw [List.length_append, List.length_map]; show zs.length + 1 ≤ LIM; unfold LIM; omega), sg, List.map_append]
        rfl
      have e8 : evE G (evCl G F (k + 1)) (.tup [(.val, (.var 5)), (.val, (.tup [(.star, (.var 6)), (.val, (.var 2))]))]) (ρ.set 4 (.fz (.lst (T0.map chV)))) = some (.fz (chV (c1, zs ++ [s])), ρ.set 4 (.fz (.lst (T0.map chV)))) := by
        have e9 : evE G (evCl G F (k + 1)) (.var 5) (ρ.set 4 (.fz (.lst (T0.map chV)))) = some (.fz (.int c1), ρ.set 4 (.fz (.lst (T0.map chV)))) := by subst hρ; rfl
        rw [x_tup, a_val, e9, Option.bind_some, a_val, e5, Option.bind_some, a_nil]
        rfl
      have e10 : evE G (evCl G F (k + 1)) (.tup [(.star, (.var 4)), (.val, (.tup [(.val, (.var 5)), (.val, (.tup [(.star, (.var 6)), (.val, (.var 2))]))]))]) ρ = some (.fz (.tup ((T0 ++ [(c1, zs ++ [s])]).map chV)), ρ.set 4 (.fz (.lst (T0.map chV)))) := by
        have e11 : evE G (evCl G F (k + 1)) (.var 4) ρ = some (.fz (.lst (T0.map chV)), ρ.set 4 (.fz (.lst (T0.map chV)))) := by subst hρ; rfl
        rw [x_tup, a_star, e11, Option.bind_some]
        show ((some (T0.map chV)).bind fun xs => _).bind _ = _
        rw [Option.bind_some, a_val, e8, Option.bind_some, a_nil, Option.map_some, Option.map_some, Option.bind_some]
        show (vals? ((T0.map chV).map .val ++ [.val (chV (c1, zs ++ [s]))])).bind _ = _
        rw [vals_app]
        show (some (T0.map chV ++ [chV (c1, zs ++ [s])])).bind _ = _
        rw [Option.bind_some, if_pos (by rw [List.length_append, List.length_map]; show T0.length + 1 ≤ LIM; unfold LIM; omega), List.map_append]
        rfl
      rw [q_cons, e1, th_nx, q_cons, s_ret, e10]
      subst hρ
      rfl
    · rw [if_neg h2, q_nil, th_nx, q_cons, s_ret]
      have ht : tellS f st s T = T := by
        unfold tellS
        cases st with
        | tag =>
          cases hu : useAt f s with
          | none => rfl
          | some u =>
            simp only []
            rw [if_neg]
            intro z
            apply h1
            unfold toldTag
            rw [hu]
            exact z
        | body u l t =>
          simp only []
          rw [if_neg]
          exact h2
        | _ => rfl
      rw [ht]
      rfl
theorem tinv_step {f : Fm} {st st' : Sd} {x : Int} {T : List (Int × List Int)} (h : stepS f st x = some st') (hi : tinv st T) : tinv st' (tellS f st x T) := by
  have bod : ∀ (u : U) (l : Int), (isTold u = true → T ≠ []) → tinv (bodyS u l) T := fun u l q => by
    unfold bodyS
    split
    · exact q
    · split <;> exact True.intro
  have addne : T ≠ [] → addLast T x ≠ [] := fun q => by
    obtain ⟨T0, c, rfl⟩ : ∃ T0 c, T = T0 ++ [c] := ⟨T.dropLast, T.getLast q, (List.dropLast_concat_getLast q).symm⟩
    obtain ⟨c1, zs⟩ := c
    rw [addLast_app]
    simp
  cases st with
  | head k =>
    rw [step_headE] at h
    have : st' = stK f (k + 1) := by
      split at h
      · exact (Option.some.inj h).symm
      · split at h
        · exact (Option.some.inj h).symm
        · cases h
      · cases h
    rw [this]
    unfold stK
    split <;> exact True.intro
  | tag =>
    rw [step_tag] at h
    show tinv st' (match useAt f x with | some u => if isTold u then T ++ [(x, [])] else T | none => T)
    cases hu : useAt f x with
    | none => rw [hu] at h; cases h
    | some u =>
      rw [hu] at h
      cases u <;> (cases h; first | exact True.intro | (intro z; exact absurd z (by decide)) | (intro _; simp [isTold]))
  | len u =>
    rw [step_len] at h
    by_cases c1 : f.w = .one
    · rw [if_pos c1] at h
      by_cases c2 : x ≤ f.m
      · rw [if_pos c2] at h
        rw [← Option.some.inj h]
        exact bod u x hi
      · rw [if_neg c2] at h; cases h
    · rw [if_neg c1] at h
      by_cases c2 : (if f.w = .high then x * f.b else x) ≤ f.m
      · rw [if_pos c2] at h
        rw [← Option.some.inj h]
        exact hi
      · rw [if_neg c2] at h; cases h
  | sec u y =>
    rw [step_sec] at h
    by_cases c2 : (if f.w = .high then y * f.b + x else x * f.b + y) ≤ f.m
    · rw [if_pos c2] at h
      rw [← Option.some.inj h]
      exact bod u _ hi
    · rw [if_neg c2] at h; cases h
  | body u l t =>
    rw [step_body] at h
    have h := Option.some.inj h
    subst h
    show tinv _ (if isTold u then addLast T x else T)
    by_cases hu : isTold u = true
    · rw [if_pos hu]
      split
      · intro _; exact addne (hi hu)
      · split <;> exact True.intro
    · rw [if_neg hu]
      split
      · intro z; exact absurd z hu
      · split <;> exact True.intro
  | sum t =>
    rw [step_sum] at h
    split at h
    · cases h; exact True.intro
    · cases h
  | room => cases h; exact True.intro
  | over => cases h
theorem tell_len {f : Fm} {st : Sd} {x : Int} {T : List (Int × List Int)} {m : Nat} (hl : T.length ≤ m) (hb : ∀ c ∈ T, c.2.length ≤ m) : (tellS f st x T).length ≤ m + 1 ∧ ∀ c ∈ tellS f st x T, c.2.length ≤ m + 1 := by
  have base : T.length ≤ m + 1 ∧ ∀ c ∈ T, c.2.length ≤ m + 1 := ⟨by omega, fun c hc => by have := hb c hc; omega⟩
  cases st with
  | tag =>
    show (match useAt f x with | some u => if isTold u then T ++ [(x, [])] else T | none => T).length ≤ m + 1 ∧ ∀ c ∈ (match useAt f x with | some u => if isTold u then T ++ [(x, [])] else T | none => T), c.2.length ≤ m + 1
    cases useAt f x with
    | none => exact base
    | some u =>
      simp only []
      split
      · refine ⟨by rw [List.length_append]; show T.length + 1 ≤ _; omega, fun c hc => ?_⟩
        rcases List.mem_append.mp hc with hc | hc
        · exact base.2 c hc
        · have : c = (x, []) := by simpa using hc
          rw [this]
          exact Nat.zero_le _
      · exact base
  | body u l t =>
    show (if isTold u then addLast T x else T).length ≤ m + 1 ∧ ∀ c ∈ (if isTold u then addLast T x else T), c.2.length ≤ m + 1
    split
    · by_cases q : T = []
      · subst q
        exact ⟨Nat.zero_le _, fun c hc => by cases hc⟩
      · obtain ⟨T0, c, rfl⟩ : ∃ T0 c, T = T0 ++ [c] := ⟨T.dropLast, T.getLast q, (List.dropLast_concat_getLast q).symm⟩
        obtain ⟨c1, zs⟩ := c
        rw [addLast_app]
        have hz := hb (c1, zs) (List.mem_append_right _ List.mem_cons_self)
        refine ⟨by rw [List.length_append] at hl ⊢; show T0.length + 1 ≤ _; have : T0.length + 1 ≤ m := hl; omega, fun c hc => ?_⟩
        rcases List.mem_append.mp hc with hc | hc
        · exact base.2 c (List.mem_append_left _ hc)
        · have : c = (c1, zs ++ [x]) := by simpa using hc
          rw [this]
          show (zs ++ [x]).length ≤ _
          rw [List.length_append]
          have hz : zs.length ≤ m := hz
          show zs.length + 1 ≤ _
          omega
    · exact base
  | _ => exact base
def tiBody : List Sm := [.asg (.name 4) (.call c_told_at [(.val, (.var 0)), (.val, (.var 3)), (.val, (.var 2)), (.val, (.var 4))]),
     .asg (.name 3) (.call c_step [(.val, (.var 0)), (.val, (.var 3)), (.val, (.var 2))])]
def TI (f : Fm) (xv : PV) (o2 : Option PV) (st : Sd) (T : List (Int × List Int)) : Env := [.fz f.pv, .fz xv, sl o2, .fz st.pv, .fz (.tup (T.map chV))]
theorem ti_turn (k : Nat) (f : Fm) (hf : f.Ok) (xv : PV) (o2 : Option PV) (st st' : Sd) (x : Int) (T : List (Int × List Int)) (ho : sdOk f (some st)) (h : stepS f st x = some st') (hi : tinv st T) (hl : T.length ≤ 1000000) (hb : ∀ c ∈ T, c.2.length ≤ 1000000) :
    fT G (evCl G F (k + 3)) (.name 2) tiBody (.int x) (TI f xv o2 st T) = some (.nx, TI f xv (some (.int x)) st' (tellS f st x T)) := by
  have hs := e_step k f hf st ho x
  rw [h] at hs
  have ht := e_told_at (k + 1) f st x T hi hl hb
  unfold TI
  generalize (tellS f st x T).map chV = T' at ht ⊢
  generalize T.map chV = T0 at ht ⊢
  have hs : evCl G F (k + 3) c_step [(false, f.pv), (false, st.pv), (false, .int x)] = some (.fz st'.pv, []) := hs
  generalize st'.pv = z' at hs ⊢
  generalize st.pv = z at hs ht ⊢
  cases o2 <;> simp [fT, tiBody, fn_eq, startE, slotOf, q_nil, q_cons, th_nx, th_rt, th_br, th_ct, th_if, s_asgN, s_asgT, s_par, p_nil, p_cons, s_expr, s_ret, s_retN, s_ite, s_setIdx, s_app, setAt, appTo, x_lit, x_glo, x_var, x_tup, x_lst, x_bin, x_neg, x_cmp, x_chain, x_ands, x_ors, x_and1, x_or1, andK_bl, orK_bl, x_and2, x_or2, x_not, x_ite, x_idx, sliceOf, x_slc, x_call, x_callK, x_bi, x_isi, x_rng1, x_rng2, a_nil, a_val, a_ref, k_nil, k_cons, o_none, o_some, val_fz, val_fr, d_slot, d_val, ds_nil, ds_cons, t_some, bw, use, peek, put, modify, truthy, isStr, avGet, avPut, slots, vals?, cmpOp, ords, isIt, isNon, within, b_add, b_sub, b_catT, b_catL, bias, biEv, tyOf, flRv, finE, mkSeq, PV.int?, PV.seq?, PV.lst?, ints?, bindP, bindPs, rangeItems, pick, eo_ii, eo_ss, eo_bb, eo_sn, eo_in, eo_ni, eo_ns, eo_nn, pq_ii, pq_ss, pq_bb, pq_in, pq_ni, pq_sn, pq_ns, pq_nn, sl, hs, ht]
theorem ti_loop (k : Nat) (f : Fm) (hf : f.Ok) (xv : PV) : ∀ (xs : List Int) (p : Nat) (st : Sd) (T : List (Int × List Int)) (B : List Nat) (o2 : Option PV) (T' : List (Int × List Int)) (B' : List Nat), sdOk f (some st) → tinv st T → T.length ≤ p → (∀ c ∈ T, c.2.length ≤ p) → p + xs.length ≤ 1000000 → rd f st p T B xs = .ok T' B' →
    ∃ st' o', forLoop (fT G (evCl G F (k + 3)) (.name 2) tiBody) (xs.map PV.int) (TI f xv o2 st T) = some (.nx, TI f xv o' st' T')
  | [], p, st, T, B, o2, T', B', ho, hi, hl, hb, hp, hr => by
    rw [rd_nil] at hr
    split at hr
    · cases hr
      exact ⟨st, o2, rfl⟩
    · cases hr
  | x :: xs, p, st, T, B, o2, T', B', ho, hi, hl, hb, hp, hr => by
    have hp' : p + (xs.length + 1) ≤ 1000000 := hp
    cases hq : stepS f st x with
    | none => rw [rd_stop hq] at hr; cases hr
    | some st' =>
      rw [rd_step hq] at hr
      have hst := step_ok f st x
      rw [hq] at hst
      obtain ⟨l1, l2⟩ := tell_len (f := f) (st := st) (x := x) hl hb
      obtain ⟨s2, o', e⟩ := ti_loop k f hf xv xs (p + 1) st' (tellS f st x T) (if lookS f st then B else B ++ [p]) (some (.int x)) T' B' hst (tinv_step hq hi) l1 l2 (by omega) hr
      refine ⟨s2, o', ?_⟩
      rw [List.map_cons, forLoop, ti_turn k f hf xv o2 st st' x T ho hq hi (by omega) (fun c hc => by have := hb c hc; omega)]
      exact e
theorem e_told_in (k : Nat) (f : Fm) (hf : f.Ok) (xs : List Int) (hl : xs.length ≤ 1000000) (T : List (Int × List Int)) (B : List Nat) (h : rd f (firstS f) 0 [] [] xs = .ok T B) : evCl G F (k + 4) c_told_in [(false, f.pv), (false, sg xs)] = some (.fz (.tup (T.map chV)), []) := by
  refine (u_told_in (k + 3) _).trans ?_
  have hm : f_told_in.m = 5 := rfl
  have hbd : f_told_in.body = [.par [3, 4] [(.call c_first_stand [(.val, (.var 0))]), (.tup [])], .for_ (.name 2) (.ex (.var 1)) tiBody, .ret (.var 4)] := rfl
  have h1 : evS G (evCl G F (k + 3)) (.par [3, 4] [(.call c_first_stand [(.val, (.var 0))]), (.tup [])]) (startE 5 [(false, f.pv), (false, sg xs)]) = some (.nx, TI f (sg xs) none (firstS f) []) := by
    have hs := e_first (k + 2) f
    unfold TI
    generalize (firstS f).pv = z at hs ⊢
    simp [fn_eq, startE, slotOf, q_nil, q_cons, th_nx, th_rt, th_br, th_ct, th_if, s_asgN, s_asgT, s_par, p_nil, p_cons, s_expr, s_ret, s_retN, s_ite, s_setIdx, s_app, setAt, appTo, x_lit, x_glo, x_var, x_tup, x_lst, x_bin, x_neg, x_cmp, x_chain, x_ands, x_ors, x_and1, x_or1, andK_bl, orK_bl, x_and2, x_or2, x_not, x_ite, x_idx, sliceOf, x_slc, x_call, x_callK, x_bi, x_isi, x_rng1, x_rng2, a_nil, a_val, a_ref, k_nil, k_cons, o_none, o_some, val_fz, val_fr, d_slot, d_val, ds_nil, ds_cons, t_some, bw, use, peek, put, modify, truthy, isStr, avGet, avPut, slots, vals?, cmpOp, ords, isIt, isNon, within, b_add, b_sub, b_catT, b_catL, bias, biEv, tyOf, flRv, finE, mkSeq, PV.int?, PV.seq?, PV.lst?, ints?, bindP, bindPs, rangeItems, pick, eo_ii, eo_ss, eo_bb, eo_sn, eo_in, eo_ni, eo_ns, eo_nn, pq_ii, pq_ss, pq_bb, pq_in, pq_ni, pq_sn, pq_ns, pq_nn, hs, sl, LIM]
  have hi : evI G (evCl G F (k + 3)) (.ex (.var 1)) (TI f (sg xs) none (firstS f) []) = some (xs.map PV.int, TI f (sg xs) none (firstS f) []) := rfl
  have ti0 : tinv (firstS f) [] := by
    unfold firstS
    split <;> exact True.intro
  obtain ⟨st', o', e⟩ := ti_loop k f hf (sg xs) xs 0 (firstS f) [] [] none T B (first_ok f) ti0 (Nat.le_refl _) (fun c hc => by cases hc) (by omega) h
  rw [fn_eq, if_pos (by rw [hm]; show 2 ≤ 5; omega), hm, hbd, q_cons, h1, th_nx, q_cons, s_for, hi, Option.bind_some]
  show ((thenS (forLoop _ _ _) _).bind _) = _
  rw [e, th_nx]
  rfl
/-! the calls -/
theorem e_check_read (k : Nat) (f : Fm) (hf : f.Ok) (xs : List Int) (T : List (Int × List Int)) (B : List Nat) (h : rd f (firstS f) 0 [] [] xs = .ok T B) : evCl G F (k + 5) c_check_read [(false, f.pv), (false, sg xs)] = some (.fz .non, []) := by
  refine (u_check_read (k + 4) _).trans ?_
  have hr := e_refusal_of k f hf xs
  rw [h] at hr
  have hr : evCl G F (k + 4) c_refusal_of [(false, f.pv), (false, sg xs)] = some (.fz .non, []) := hr
  simp [f_check_read, fn_eq, startE, slotOf, q_nil, q_cons, th_nx, th_rt, th_br, th_ct, th_if, s_asgN, s_asgT, s_par, p_nil, p_cons, s_expr, s_ret, s_retN, s_ite, s_setIdx, s_app, setAt, appTo, x_lit, x_glo, x_var, x_tup, x_lst, x_bin, x_neg, x_cmp, x_chain, x_ands, x_ors, x_and1, x_or1, andK_bl, orK_bl, x_and2, x_or2, x_not, x_ite, x_idx, sliceOf, x_slc, x_call, x_callK, x_bi, x_isi, x_rng1, x_rng2, a_nil, a_val, a_ref, k_nil, k_cons, o_none, o_some, val_fz, val_fr, d_slot, d_val, ds_nil, ds_cons, t_some, bw, use, peek, put, modify, truthy, isStr, avGet, avPut, slots, vals?, cmpOp, ords, isIt, isNon, within, b_add, b_sub, b_catT, b_catL, bias, biEv, tyOf, flRv, finE, mkSeq, PV.int?, PV.seq?, PV.lst?, ints?, bindP, bindPs, rangeItems, pick, eo_ii, eo_ss, eo_bb, eo_sn, eo_in, eo_ni, eo_ns, eo_nn, pq_ii, pq_ss, pq_bb, pq_in, pq_ni, pq_sn, pq_ns, pq_nn, hr]
theorem call1 (C : Cl) (g : Nat) (a : Ex) (P : PV) (r : RV) (ρ : Env) (ha : evE G C a ρ = some (.fz P, ρ)) (hc : C g [(false, P)] = some (r, [])) : evE G C (.call g [(.val, a)]) ρ = some (r, ρ) := by
  rw [x_call, a_val, ha]
  simp [a_nil, slots, avGet, avPut, val_fz, hc]
theorem e_read (k : Nat) (f : Fm) (hf : f.Ok) (xs : List Int) (hl : xs.length ≤ 1000000) (hx : ∀ x ∈ xs, inB f.b x = true) (T : List (Int × List Int)) (B : List Nat) (h : rd f (firstS f) 0 [] [] xs = .ok T B) : evCl G F (k + 6) c_read [(false, f.pv), (false, sg xs)] = some (.fz (.tup (T.map chV)), []) := by
  refine (u_read (k + 5) _).trans ?_
  have h1 := e_check_format k f hf
  have h2 := e_check_file k f xs (by unfold LIM; omega) hx
  have h3 := e_check_read k f hf xs T B h
  have h4 := e_told_in (k + 1) f hf xs hl T B h
  have h4 : evCl G F (k + 5) c_told_in [(false, f.pv), (false, sg xs)] = some (.fz (.tup (T.map chV)), []) := h4
  generalize f.pv = z1 at *
  generalize sg xs = z2 at *
  generalize PV.tup (T.map chV) = z3 at *
  simp [f_read, fn_eq, startE, slotOf, q_nil, q_cons, th_nx, th_rt, th_br, th_ct, th_if, s_asgN, s_asgT, s_par, p_nil, p_cons, s_expr, s_ret, s_retN, s_ite, s_setIdx, s_app, setAt, appTo, x_lit, x_glo, x_var, x_tup, x_lst, x_bin, x_neg, x_cmp, x_chain, x_ands, x_ors, x_and1, x_or1, andK_bl, orK_bl, x_and2, x_or2, x_not, x_ite, x_idx, sliceOf, x_slc, x_call, x_callK, x_bi, x_isi, x_rng1, x_rng2, a_nil, a_val, a_ref, k_nil, k_cons, o_none, o_some, val_fz, val_fr, d_slot, d_val, ds_nil, ds_cons, t_some, bw, use, peek, put, modify, truthy, isStr, avGet, avPut, slots, vals?, cmpOp, ords, isIt, isNon, within, b_add, b_sub, b_catT, b_catL, bias, biEv, tyOf, flRv, finE, mkSeq, PV.int?, PV.seq?, PV.lst?, ints?, bindP, bindPs, rangeItems, pick, eo_ii, eo_ss, eo_bb, eo_sn, eo_in, eo_ni, eo_ns, eo_nn, pq_ii, pq_ss, pq_bb, pq_in, pq_ni, pq_sn, pq_ns, pq_nn, h1, h2, h3, h4]
end EV.Law
set_option linter.all false
set_option maxRecDepth 100000
namespace EV.Law
open PySem EV
theorem e_refusal (k : Nat) (f : Fm) (hf : f.Ok) (xs : List Int) (hl : xs.length ≤ 1000000) (hx : ∀ x ∈ xs, inB f.b x = true) : evCl G F (k + 6) c_refusal [(false, f.pv), (false, sg xs)] = some (.fz (R.rf (rd f (firstS f) 0 [] [] xs)), []) := by
  refine (u_refusal (k + 5) _).trans ?_
  have h1 := e_check_format k f hf
  have h2 := e_check_file k f xs (by unfold LIM; omega) hx
  have h4 := e_refusal_of (k + 1) f hf xs
  have h4 : evCl G F (k + 5) c_refusal_of [(false, f.pv), (false, sg xs)] = some (.fz (R.rf (rd f (firstS f) 0 [] [] xs)), []) := h4
  generalize R.rf (rd f (firstS f) 0 [] [] xs) = z3 at *
  generalize f.pv = z1 at *
  generalize sg xs = z2 at *
  simp [f_refusal, fn_eq, startE, slotOf, q_nil, q_cons, th_nx, th_rt, th_br, th_ct, th_if, s_asgN, s_asgT, s_par, p_nil, p_cons, s_expr, s_ret, s_retN, s_ite, s_setIdx, s_app, setAt, appTo, x_lit, x_glo, x_var, x_tup, x_lst, x_bin, x_neg, x_cmp, x_chain, x_ands, x_ors, x_and1, x_or1, andK_bl, orK_bl, x_and2, x_or2, x_not, x_ite, x_idx, sliceOf, x_slc, x_call, x_callK, x_bi, x_isi, x_rng1, x_rng2, a_nil, a_val, a_ref, k_nil, k_cons, o_none, o_some, val_fz, val_fr, d_slot, d_val, ds_nil, ds_cons, t_some, bw, use, peek, put, modify, truthy, isStr, avGet, avPut, slots, vals?, cmpOp, ords, isIt, isNon, within, b_add, b_sub, b_catT, b_catL, bias, biEv, tyOf, flRv, finE, mkSeq, PV.int?, PV.seq?, PV.lst?, ints?, bindP, bindPs, rangeItems, pick, eo_ii, eo_ss, eo_bb, eo_sn, eo_in, eo_ni, eo_ns, eo_nn, pq_ii, pq_ss, pq_bb, pq_in, pq_ni, pq_sn, pq_ns, pq_nn, h1, h2, h4]
end EV.Law
set_option linter.all false
set_option maxRecDepth 100000
namespace EV.Law
open PySem EV
/-! ### environments, slot by slot -/
def Fr (ρ : Env) : Prop := ∀ v, Slot.pn v ∉ ρ
def Ag (J : List Nat) (ρ ρ' : Env) : Prop := ρ'.length = ρ.length ∧ ∀ j, j ∉ J → ρ'[j]? = ρ[j]?
theorem Ag.refl (J : List Nat) (ρ : Env) : Ag J ρ ρ := ⟨rfl, fun _ _ => rfl⟩
theorem Ag.trans {J : List Nat} {a b c : Env} (h : Ag J a b) (h' : Ag J b c) : Ag J a c := ⟨h'.1.trans h.1, fun j hj => (h'.2 j hj).trans (h.2 j hj)⟩
theorem Ag.more {J J' : List Nat} {a b : Env} (h : Ag J a b) (s : ∀ j, j ∈ J → j ∈ J') : Ag J' a b := ⟨h.1, fun j hj => h.2 j fun z => hj (s j z)⟩
theorem Ag.set {J : List Nat} (ρ : Env) (i : Nat) (s : Slot) (h : i ∈ J) : Ag J ρ (ρ.set i s) := ⟨List.length_set, fun j hj => List.getElem?_set_ne fun z => hj (by rw [← z]; exact h)⟩
theorem Ag.at {J : List Nat} {a b : Env} (h : Ag J a b) {j : Nat} {s : Slot} (hj : j ∉ J) (e : a[j]? = some s) : b[j]? = some s := (h.2 j hj).trans e
def rs : RV → Slot
  | .fz v => .fz v
  | .fr v => .ow v
theorem rs_free (r : RV) (v : PV) : rs r ≠ .pn v := by cases r <;> exact fun z => nomatch z
theorem Fr.set {ρ : Env} (h : Fr ρ) (i : Nat) {s : Slot} (hs : ∀ v, s ≠ .pn v) : Fr (ρ.set i s) := fun v hv => by
  rcases List.mem_or_eq_of_mem_set hv with z | z
  · exact h v z
  · exact hs v z.symm
theorem Fr.fz {ρ : Env} (h : Fr ρ) (i : Nat) (v : PV) : Fr (ρ.set i (.fz v)) := h.set i fun _ z => nomatch z
theorem Fr.ow {ρ : Env} (h : Fr ρ) (i : Nat) (v : PV) : Fr (ρ.set i (.ow v)) := h.set i fun _ z => nomatch z
theorem Fr.un {ρ : Env} (h : Fr ρ) (i : Nat) : Fr (ρ.set i .un) := h.set i fun _ z => nomatch z
theorem Fr.rs {ρ : Env} (h : Fr ρ) (i : Nat) (r : RV) : Fr (ρ.set i (rs r)) := h.set i fun v => rs_free r v
theorem put_fr {ρ : Env} {i : Nat} (r : RV) (h : Fr ρ) (hi : i < ρ.length) : put i r ρ = some (ρ.set i (rs r)) := by
  have e : ρ[i]? = some ρ[i] := List.getElem?_eq_getElem hi
  rw [put_free (s := ρ[i]) e (fun v z => h v (z ▸ List.getElem_mem hi))]
  cases r <;> rfl
theorem s_put {C : Cl} {e : Ex} {i : Nat} {ρ ρ1 : Env} {r : RV} (he : evE G C e ρ = some (r, ρ1)) (h : Fr ρ1) (hi : i < ρ1.length) : evS G C (.asg (.name i) e) ρ = some (.nx, ρ1.set i (rs r)) := by
  rw [s_asgN, he, Option.bind_some, put_fr r h hi]
  rfl
theorem bind_nm {i : Nat} {ρ : Env} (v : PV) (h : Fr ρ) (hi : i < ρ.length) : bindP (.name i) v ρ = some (ρ.set i (.fz v)) := put_fr (.fz v) h hi
theorem v_fz {C : Cl} {i : Nat} {ρ : Env} {v : PV} (h : ρ[i]? = some (.fz v)) : evE G C (.var i) ρ = some (.fz v, ρ) := by
  show use i ρ = _
  unfold use
  rw [h]
theorem v_ow {C : Cl} {i : Nat} {ρ : Env} {v : PV} (h : ρ[i]? = some (.ow v)) : evE G C (.var i) ρ = some (.fz v, ρ.set i (.fz v)) := by
  show use i ρ = _
  unfold use
  rw [h]
theorem pk_fz {i : Nat} {ρ : Env} {v : PV} (h : ρ[i]? = some (.fz v)) : peek i ρ = some v := by unfold peek; rw [h]
theorem pk_ow {i : Nat} {ρ : Env} {v : PV} (h : ρ[i]? = some (.ow v)) : peek i ρ = some v := by unfold peek; rw [h]
theorem pk_pn {i : Nat} {ρ : Env} {v : PV} (h : ρ[i]? = some (.pn v)) : peek i ρ = some v := by unfold peek; rw [h]
theorem bw_v {C : Cl} {i : Nat} {ρ : Env} {v : PV} (h : peek i ρ = some v) : bw (.var i) (evE G C (.var i) ρ) ρ = some (.slot i, ρ) := by
  show (peek i ρ).map (fun _ => (Bw.slot i, ρ)) = _
  rw [h]
  rfl
/-- len of a slot -/
theorem len_v {C : Cl} {i : Nat} {ρ : Env} {v : PV} {xs : List PV} (h : peek i ρ = some v) (hv : v = .tup xs ∨ v = .lst xs) : evE G C (.bi .len [(.ref, (.var i))]) ρ = some (.fz (.int (xs.length : Int)), ρ) := by
  rw [x_bi, a_ref, bw_v h, Option.bind_some, a_nil]
  show (derefs [.slot i] ρ).bind _ = _
  rw [ds_cons, d_slot, h]
  rcases hv with rfl | rfl <;> rfl
/-- a call whose first argument is a parameter that may be changed -/
theorem ref_callP {C : Cl} {g i : Nat} {es : List (AK × Ex)} {ρ ρ1 : Env} {v v' : PV} {vs : List PV} {r : RV} (hp : ∃ u, peek i ρ = some u) (ha : evAs G C es ρ = some (vs.map Bw.val, ρ1)) (h1 : ρ1[i]? = some (.pn v)) (hc : C g ((true, v) :: vs.map fun x => (false, x)) = some (r, [v'])) :
    evE G C (.call g ((.ref, .var i) :: es)) ρ = some (r, ρ1.set i (.pn v')) := by
  obtain ⟨u, hu⟩ := hp
  have hs : ∀ xs : List PV, slots (xs.map Bw.val) = [] := fun xs => by
    induction xs with
    | nil => rfl
    | cons x xs ih => exact ih
  have hg : ∀ xs : List PV, avGet ρ1 (xs.map Bw.val) = some (xs.map fun x => (false, x)) := fun xs => by
    induction xs with
    | nil => rfl
    | cons x xs ih =>
      show (avGet ρ1 (xs.map Bw.val)).map ((false, x) :: ·) = _
      rw [ih]
      rfl
  have hpu : ∀ (xs : List PV) (ρ2 : Env), avPut (xs.map Bw.val) [] ρ2 = some ρ2 := fun xs => by
    induction xs with
    | nil => exact fun _ => rfl
    | cons x xs ih => exact ih
  have e1 : (slots (Bw.slot i :: vs.map Bw.val)).length ≤ 1 := by
    show (i :: slots (vs.map Bw.val)).length ≤ 1
    rw [hs]
    exact Nat.le_refl 1
  have e2 : avGet ρ1 (Bw.slot i :: vs.map Bw.val) = some ((true, v) :: vs.map fun x => (false, x)) := by
    rw [avGet, h1]
    show (avGet ρ1 (vs.map Bw.val)).map ((true, v) :: ·) = _
    rw [hg]
    rfl
  have e3 : avPut (Bw.slot i :: vs.map Bw.val) [v'] ρ1 = some (ρ1.set i (.pn v')) := by
    show (modify i (fun _ => some v') ρ1).bind (fun ρ2 => avPut (vs.map Bw.val) [] ρ2) = _
    rw [modify, h1]
    show (some (ρ1.set i (.pn v'))).bind _ = _
    rw [Option.bind_some, hpu]
  rw [x_call, a_ref, bw_v hu, Option.bind_some]
  show ((evAs G C es ρ).map _).bind _ = _
  rw [ha, Option.map_some, Option.bind_some, if_pos e1]
  show (avGet ρ1 (Bw.slot i :: vs.map Bw.val)).bind _ = _
  rw [e2, Option.bind_some, hc, Option.bind_some]
  show (avPut (Bw.slot i :: vs.map Bw.val) [v'] ρ1).map _ = _
  rw [e3]
  rfl
theorem a1 {C : Cl} {e : Ex} {es : List (AK × Ex)} {ρ ρ1 ρ2 : Env} {r : RV} {v : PV} {bs : List Bw} (he : evE G C e ρ = some (r, ρ1)) (hv : r.val = v) (hs : evAs G C es ρ1 = some (bs, ρ2)) : evAs G C ((.val, e) :: es) ρ = some (.val v :: bs, ρ2) := by
  rw [a_val, he, Option.bind_some, hs, hv]
  rfl
theorem a0 {C : Cl} {ρ : Env} : evAs G C [] ρ = some (([] : List PV).map Bw.val, ρ) := rfl
/-- a call by values -/
theorem val_call {C : Cl} {g : Nat} {es : List (AK × Ex)} {ρ ρ1 : Env} {vs : List PV} {r : RV} (ha : evAs G C es ρ = some (vs.map Bw.val, ρ1)) (hc : C g (vs.map fun x => (false, x)) = some (r, [])) : evE G C (.call g es) ρ = some (r, ρ1) := by
  have hs : ∀ xs : List PV, slots (xs.map Bw.val) = [] := fun xs => by
    induction xs with
    | nil => rfl
    | cons x xs ih => exact ih
  have hg : ∀ xs : List PV, avGet ρ1 (xs.map Bw.val) = some (xs.map fun x => (false, x)) := fun xs => by
    induction xs with
    | nil => rfl
    | cons x xs ih =>
      show (avGet ρ1 (xs.map Bw.val)).map ((false, x) :: ·) = _
      rw [ih]
      rfl
  have hpu : ∀ (xs : List PV) (ρ2 : Env), avPut (xs.map Bw.val) [] ρ2 = some ρ2 := fun xs => by
    induction xs with
    | nil => exact fun _ => rfl
    | cons x xs ih => exact ih
  rw [x_call, ha, Option.bind_some, if_pos (by show (slots (vs.map Bw.val)).length ≤ 1; rw [hs]; exact Nat.zero_le _), hg, Option.bind_some, hc, Option.bind_some]
  show (avPut (vs.map Bw.val) [] ρ1).map _ = _
  rw [hpu]
  rfl
theorem qs_app {C : Cl} : ∀ (a b : List Sm) (ρ : Env), evSs G C (a ++ b) ρ = thenS (evSs G C a ρ) fun ρ' => evSs G C b ρ'
  | [], b, ρ => rfl
  | s :: a, b, ρ => by
    show evSs G C (s :: (a ++ b)) ρ = _
    rw [q_cons, q_cons]
    cases evS G C s ρ with
    | none => rfl
    | some p =>
      obtain ⟨fl, ρ1⟩ := p
      cases fl with
      | nx => exact qs_app a b ρ1
      | _ => rfl
theorem fin_1 {v : PV} {ρ : Env} (h : 0 < ρ.length) : finE [(false, v)] ρ = some [] := by
  cases ρ with
  | nil => simp at h
  | cons s r => rfl
theorem gs_ne {ρ : Env} {i j : Nat} {s : Slot} (h : i ≠ j) : (ρ.set i s)[j]? = ρ[j]? := List.getElem?_set_ne h
theorem tst_bl {b : Bool} {ρ : Env} : tst (some (RV.fz (.bl b), ρ)) = some (b, ρ) := rfl
theorem ite_ev {C : Cl} {c : Ex} {a b : List Sm} {ρ ρ1 : Env} {t : Bool} (h : evE G C c ρ = some (.fz (.bl t), ρ1)) : evS G C (.ite c a b) ρ = if t = true then evSs G C a ρ1 else evSs G C b ρ1 := by
  rw [s_ite, h, tst_bl, Option.bind_some]
theorem not_ev {C : Cl} {c : Ex} {ρ ρ1 : Env} {t : Bool} (h : evE G C c ρ = some (.fz (.bl t), ρ1)) : evE G C (.not c) ρ = some (.fz (.bl !t), ρ1) := by
  rw [x_not, h, tst_bl]
  rfl
/-- range(n) -/
theorem range_ev {C : Cl} {e : Ex} {ρ ρ1 : Env} {n : Nat} (h : evE G C e ρ = some (.fz (.int (n : Int)), ρ1)) (hn : n ≤ 1000000) : evI G C (.range [(.val, e)]) ρ = some ((List.range n).map fun i => PV.int (i : Nat), ρ1) := by
  have ha : evAs G C [(.val, e)] ρ = some ([.val (.int (n : Int))], ρ1) := by
    rw [a_val, h, Option.bind_some, a_nil]
    rfl
  have hv : vals? [Bw.val (.int (n : Int))] = some [.int (n : Int)] := rfl
  rw [i_range, ha, Option.bind_some, hv, Option.bind_some, range_nat n hn]
  rfl
/-- a loop that keeps something -/
theorem for_keep {turn : PV → Env → Option (Fl × Env)} {I : Nat → Env → Prop} : ∀ (xs : List PV) (Q : Nat), (∀ (x : PV) (n : Nat) (ρ : Env), x ∈ xs → I (n + Q) ρ → ∃ ρ', turn x ρ = some (.nx, ρ') ∧ I n ρ') → ∀ (n : Nat) (ρ : Env), I (n + Q * xs.length) ρ → ∃ ρ', forLoop turn xs ρ = some (.nx, ρ') ∧ I n ρ'
  | [], Q, _, n, ρ, hi => ⟨ρ, rfl, by simpa using hi⟩
  | x :: xs, Q, h, n, ρ, hi => by
    have e : n + Q * (x :: xs).length = (n + Q * xs.length) + Q := by rw [List.length_cons, Nat.mul_add, Nat.mul_one, Nat.add_assoc]
    rw [e] at hi
    obtain ⟨ρ1, e1, i1⟩ := h x _ ρ List.mem_cons_self hi
    obtain ⟨ρ2, e2, i2⟩ := for_keep xs Q (fun y m ρ hy => h y m ρ (List.mem_cons_of_mem _ hy)) n ρ1 i1
    refine ⟨ρ2, ?_, i2⟩
    rw [forLoop, e1]
    exact e2
/-! ### the law's two loops -/
structure LI (m ib : Nat) (us : List Nat) (ns : List Int) (q : Nat) (ρ : Env) : Prop where
  len : ρ.length = m
  fr : Fr ρ
  un : ∀ j ∈ us, ρ[j]? = some .un
  s0 : ρ[0]? = some (.fz (.lst (ns.map PV.int)))
  bag : ∃ v, ρ[ib]? = some (.ow v) ∧ BG q v
structure LO (m : Nat) (us : List Nat) (ns : List Int) (ρ : Env) : Prop where
  len : ρ.length = m
  fr : Fr ρ
  un : ∀ j ∈ us, ρ[j]? = some .un
  s0 : ρ[0]? = some (.fz (.lst (ns.map PV.int)))
theorem law_at {C : Cl} {k m ib it turns Q : Nat} {us : List Nat} {ns : List Int} {tBody : List Sm} {ρ : Env} (hk : C = evCl G F (k + 1)) (hib : 1 < ib) (hibm : ib < m) (hit0 : 0 < it) (hitb : it ≠ ib) (hitm : it < m) (hus : ∀ j ∈ us, j ≠ 1 ∧ j ≠ ib ∧ j ≠ it) (hb : Q * turns ≤ 1000000000) (hn : turns ≤ 1000)
    (ht : ∀ (q : Nat) (ρ : Env), LI m ib us ns (q + Q) ρ → ∃ ρ', evSs G C tBody ρ = some (.nx, ρ') ∧ LI m ib us ns q ρ') (a : Nat) (ha : a ≤ 1000) (h : LO m us ns ρ) :
    ∃ ρ', fT G C (.name 1) [.asg (.name ib) (.call c_law_bag [(.val, (.var 0)), (.val, (.var 1))]), .for_ (.name it) (.range [(.val, (.lit (.int (turns : Int))))]) tBody] (.int (a : Int)) ρ = some (.nx, ρ') ∧ LO m us ns ρ' := by
  subst hk
  obtain ⟨hl, hf, hu, h0⟩ := h
  obtain ⟨v, eb, hv⟩ := e_law_bag k ns a ha
  have l1 : 1 < ρ.length := by omega
  have hb1 := bind_nm (i := 1) (.int (a : Int)) hf l1
  have f1 := hf.fz 1 (.int (a : Int))
  have g0 : (ρ.set 1 (.fz (.int (a : Int))))[0]? = some (.fz (.lst (ns.map PV.int))) := by rw [List.getElem?_set_ne (by decide)]; exact h0
  have g1 : (ρ.set 1 (.fz (.int (a : Int))))[1]? = some (.fz (.int (a : Int))) := List.getElem?_set_self l1
  have hc : evE G (evCl G F (k + 1)) (.call c_law_bag [(.val, (.var 0)), (.val, (.var 1))]) (ρ.set 1 (.fz (.int (a : Int)))) = some (.fr v, ρ.set 1 (.fz (.int (a : Int)))) := val_call (vs := [.lst (ns.map PV.int), .int (a : Int)]) (a1 (v_fz g0) rfl (a1 (v_fz g1) rfl a0)) eb
  have e1 := s_put (i := ib) hc f1 (by rw [List.length_set]; omega)
  have li : LI m ib us ns (0 + Q * ((List.range turns).map fun i => PV.int (i : Nat)).length) ((ρ.set 1 (.fz (.int (a : Int)))).set ib (rs (.fr v))) := by
    refine ⟨by rw [List.length_set, List.length_set]; exact hl, f1.rs ib _, fun j hj => by rw [List.getElem?_set_ne (Ne.symm (hus j hj).2.1), List.getElem?_set_ne (Ne.symm (hus j hj).1)]; exact hu j hj, ?_, v, List.getElem?_set_self (by rw [List.length_set]; omega), hv.less (by rw [List.length_map, List.length_range]; omega)⟩
    rw [List.getElem?_set_ne (by omega)]
    exact g0
  have hr : evI G (evCl G F (k + 1)) (.range [(.val, (.lit (.int (turns : Int))))]) ((ρ.set 1 (.fz (.int (a : Int)))).set ib (rs (.fr v))) = some ((List.range turns).map fun i => PV.int (i : Nat), (ρ.set 1 (.fz (.int (a : Int)))).set ib (rs (.fr v))) := range_ev rfl (by omega)
  obtain ⟨ρ', e2, l2⟩ := for_keep (turn := fT G (evCl G F (k + 1)) (.name it) tBody) (I := LI m ib us ns) ((List.range turns).map fun i => PV.int (i : Nat)) Q (fun x n ρ1 _ hi => by
    obtain ⟨w, hw, hbw⟩ := hi.bag
    have lt : it < ρ1.length := by rw [hi.len]; exact hitm
    have hi2 : LI m ib us ns (n + Q) (ρ1.set it (.fz x)) := ⟨by rw [List.length_set]; exact hi.len, hi.fr.fz it x, fun j hj => by rw [List.getElem?_set_ne (Ne.symm (hus j hj).2.2)]; exact hi.un j hj, by rw [List.getElem?_set_ne (by omega)]; exact hi.s0, w, by rw [List.getElem?_set_ne hitb]; exact hw, hbw⟩
    obtain ⟨ρ2, e, l⟩ := ht n _ hi2
    refine ⟨ρ2, ?_, l⟩
    rw [fT, bind_nm x hi.fr lt, Option.bind_some]
    exact e) 0 _ li
  refine ⟨ρ', ?_, l2.len, l2.fr, l2.un, l2.s0⟩
  rw [fT, hb1, Option.bind_some, q_cons, e1, th_nx, q_cons, s_for, hr, Option.bind_some]
  show thenS (forLoop _ _ _) _ = _
  rw [e2, th_nx]
  rfl
/-- for at in range(max(1, min(N, len(script)))) -/
theorem law_outer {C : Cl} {m N : Nat} {us : List Nat} {ns : List Int} {aBody : List Sm} {ρ : Env} (hN : N ≤ 1000) (ht : ∀ (a : Nat) (ρ : Env), a ≤ 1000 → LO m us ns ρ → ∃ ρ', fT G C (.name 1) aBody (.int (a : Int)) ρ = some (.nx, ρ') ∧ LO m us ns ρ') (h : LO m us ns ρ) :
    ∃ ρ', evS G C (.for_ (.name 1) (.range [(.val, (.bi .max [(.ref, (.lit (.int 1))), (.ref, (.bi .min [(.ref, (.lit (.int (N : Int)))), (.ref, (.bi .len [(.ref, (.var 0))]))]))]))]) aBody) ρ = some (.nx, ρ') ∧ LO m us ns ρ' := by
  obtain ⟨n, hn1, hn2⟩ : ∃ n : Nat, (if (if (ns.length : Int) < (N : Int) then (ns.length : Int) else (N : Int)) > 1 then (if (ns.length : Int) < (N : Int) then (ns.length : Int) else (N : Int)) else 1) = (n : Int) ∧ n ≤ 1000 := by
    refine ⟨(if (if (ns.length : Int) < (N : Int) then (ns.length : Int) else (N : Int)) > 1 then (if (ns.length : Int) < (N : Int) then (ns.length : Int) else (N : Int)) else 1).toNat, ?_, ?_⟩ <;> (split <;> split <;> omega)
  have hl : evE G C (.bi .len [(.ref, (.var 0))]) ρ = some (.fz (.int ((ns.map PV.int).length : Int)), ρ) := len_v (pk_fz h.s0) (.inr rfl)
  have hmin : evE G C (.bi .min [(.ref, (.lit (.int (N : Int)))), (.ref, (.bi .len [(.ref, (.var 0))]))]) ρ = some (.fz (.int (if (ns.length : Int) < (N : Int) then (ns.length : Int) else (N : Int))), ρ) := by
    have ha : evAs G C [(.ref, (.lit (.int (N : Int)))), (.ref, (.bi .len [(.ref, (.var 0))]))] ρ = some ([.val (.int (N : Int)), .val (.int (ns.length : Int))], ρ) := by
      rw [a_ref]
      show ((evAs G C [(.ref, (.bi .len [(.ref, (.var 0))]))] ρ).map _) = _
      rw [a_ref, hl, List.length_map]
      rfl
    rw [x_bi, ha]
    rfl
  have hmax : evE G C (.bi .max [(.ref, (.lit (.int 1))), (.ref, (.bi .min [(.ref, (.lit (.int (N : Int)))), (.ref, (.bi .len [(.ref, (.var 0))]))]))]) ρ = some (.fz (.int (n : Int)), ρ) := by
    have ha : evAs G C [(.ref, (.lit (.int 1))), (.ref, (.bi .min [(.ref, (.lit (.int (N : Int)))), (.ref, (.bi .len [(.ref, (.var 0))]))]))] ρ = some ([.val (.int 1), .val (.int (if (ns.length : Int) < (N : Int) then (ns.length : Int) else (N : Int)))], ρ) := by
      rw [a_ref]
      show ((evAs G C [(.ref, (.bi .min [(.ref, (.lit (.int (N : Int)))), (.ref, (.bi .len [(.ref, (.var 0))]))]))] ρ).map _) = _
      rw [a_ref, hmin]
      rfl
    rw [x_bi, ha, ← hn1]
    rfl
  rw [s_for, range_ev hmax (by omega), Option.bind_some]
  have go : ∀ (as : List Nat) (ρ : Env), (∀ a ∈ as, a ≤ 1000) → LO m us ns ρ → ∃ ρ', forLoop (fT G C (.name 1) aBody) (as.map fun i => PV.int (i : Nat)) ρ = some (.nx, ρ') ∧ LO m us ns ρ' := fun as => by
    induction as with
    | nil => exact fun ρ _ h => ⟨ρ, rfl, h⟩
    | cons a as ih =>
      intro ρ ha h
      obtain ⟨ρ1, e1, l1⟩ := ht a ρ (ha a List.mem_cons_self) h
      obtain ⟨ρ2, e2, l2⟩ := ih ρ1 (fun b hb => ha b (List.mem_cons_of_mem _ hb)) l1
      refine ⟨ρ2, ?_, l2⟩
      rw [List.map_cons, forLoop, e1]
      exact e2
  exact go (List.range n) ρ (fun a ha => by have := List.mem_range.mp ha; omega) h

/-! ### drawn lists -/
theorem set_same {ρ : Env} {i : Nat} {s : Slot} (h : ρ[i]? = some s) : ρ.set i s = ρ := by
  apply List.ext_getElem?
  intro j
  by_cases hj : i = j
  · subst hj
    rw [List.getElem?_set_self (List.getElem?_eq_some_iff.mp h).1, h]
  · rw [List.getElem?_set_ne hj]
theorem dr_loop {k i j : Nat} (hij : i ≠ j) {e : Ex} {b : Int} (hb : 0 < b) (hb2 : b < 18446744073709551616) : ∀ (xs : List PV) (q : Nat) (ρ : Env) (v : PV) (acc : List Int), ρ[i]? = some (.ow v) → ρ[j]? = some .un → Fr ρ →
    (∀ ρ', Ag [i, j] ρ ρ' → evE G (evCl G F (k + 1)) e ρ' = some (.fz (.int b), ρ')) → acc.length + xs.length ≤ 10000 → (∀ z ∈ acc, inB b z = true) → BG (q + xs.length) v →
    ∃ (zs : List Int) (v' : PV), compLoop (cT G (evCl G F (k + 1)) (.call c_law_grab [(.ref, (.var i)), (.val, e)]) [j] (.name j) []) xs ρ (acc.map PV.int) = some (zs.map PV.int, ρ.set i (.ow v')) ∧ BG q v' ∧ zs.length = acc.length + xs.length ∧ ∀ z ∈ zs, inB b z = true
  | [], q, ρ, v, acc, hi, hj, hf, he, hl, ha, hv => ⟨acc, v, by rw [compLoop, set_same hi], hv, rfl, ha⟩
  | x :: xs, q, ρ, v, acc, hi, hj, hf, he, hl, ha, hv => by
    have hl' : acc.length + (xs.length + 1) ≤ 10000 := hl
    have jl : j < ρ.length := (List.getElem?_eq_some_iff.mp hj).1
    have il : i < ρ.length := (List.getElem?_eq_some_iff.mp hi).1
    have a1 : Ag [i, j] ρ (ρ.set j (.fz x)) := Ag.set ρ j _ (by simp)
    obtain ⟨d, v1, g, p1, p2, hv1⟩ := grab_at (k := k) (q := q + xs.length) (i := i) (ρ := ρ.set j (.fz x)) (v := v) (e := e) (b := b) (by rw [List.getElem?_set_ne (Ne.symm hij)]; exact hi) (he _ a1) hv hb hb2
    have eset : ((ρ.set j (.fz x)).set i (.ow v1)).set j .un = ρ.set i (.ow v1) := by
      rw [List.set_comm _ _ (Ne.symm hij), List.set_set, set_same]
      rw [List.getElem?_set_ne hij]
      exact hj
    have ht : cT G (evCl G F (k + 1)) (.call c_law_grab [(.ref, (.var i)), (.val, e)]) [j] (.name j) [] x ρ = some (some (.int d), ρ.set i (.ow v1)) := by
      rw [cT, bind_nm x hf jl, Option.bind_some]
      show ((evE G (evCl G F (k + 1)) (.call c_law_grab [(.ref, (.var i)), (.val, e)]) (ρ.set j (.fz x))).map fun y => (some y.1.val, wipe y.2 [j])) = _
      rw [g]
      show some (some (PV.int d), ((ρ.set j (.fz x)).set i (.ow v1)).set j .un) = _
      rw [eset]
    obtain ⟨zs, v', e2, hv', hz, hin⟩ := dr_loop hij hb hb2 xs q (ρ.set i (.ow v1)) v1 (acc ++ [d]) (List.getElem?_set_self il) (by rw [List.getElem?_set_ne hij]; exact hj) (hf.ow i v1)
      (fun ρ' h => he ρ' ((Ag.set ρ i _ (by simp)).trans h)) (by rw [List.length_append]; show acc.length + 1 + xs.length ≤ 10000; omega) (fun z hz => by
        rcases List.mem_append.mp hz with hz | hz
        · exact ha z hz
        · have : z = d := by simpa using hz
          rw [this]
          exact inB_of p1 p2) hv1
    rw [List.set_set] at e2
    refine ⟨zs, v', ?_, hv', by rw [hz, List.length_append]; show acc.length + 1 + xs.length = acc.length + (xs.length + 1); omega, hin⟩
    have hacc : (acc.map PV.int).length < LIM := by
      rw [List.length_map]
      unfold LIM
      omega
    rw [compLoop, ht, Option.bind_some]
    show (if (acc.map PV.int).length < LIM then _ else none) = _
    rw [if_pos hacc]
    have hm : acc.map PV.int ++ [PV.int d] = (acc ++ [d]).map PV.int := by simp
    rw [hm]
    exact e2
/-- [_law_grab(bag, e) for j in range(n)] -/
theorem comp_draws {k q i j n : Nat} {ρ : Env} {v : PV} {e en : Ex} {b : Int} (hij : i ≠ j) (hb : 0 < b) (hb2 : b < 18446744073709551616) (hi : ρ[i]? = some (.ow v)) (hj : ρ[j]? = some .un) (hf : Fr ρ) (hn : n ≤ 10000) (hen : evE G (evCl G F (k + 1)) en ρ = some (.fz (.int (n : Int)), ρ))
    (he : ∀ ρ', Ag [i, j] ρ ρ' → evE G (evCl G F (k + 1)) e ρ' = some (.fz (.int b), ρ')) (hv : BG (q + n) v) :
    ∃ (zs : List Int) (v' : PV), evE G (evCl G F (k + 1)) (.comp (.call c_law_grab [(.ref, (.var i)), (.val, e)]) [j] (.name j) (.range [(.val, en)]) []) ρ = some (.fr (.lst (zs.map PV.int)), ρ.set i (.ow v')) ∧ BG q v' ∧ zs.length = n ∧ ∀ z ∈ zs, inB b z = true := by
  obtain ⟨zs, v', e1, hv', hz, hin⟩ := dr_loop (k := k) hij (e := e) hb hb2 ((List.range n).map fun i => PV.int (i : Nat)) q ρ v [] hi hj hf he (by rw [List.length_map, List.length_range]; show 0 + n ≤ 10000; omega) (fun z hz => by cases hz) (hv.less (by rw [List.length_map, List.length_range]; exact Nat.le_refl _))
  rw [List.length_map, List.length_range] at hz
  have hw : wipe ρ [j] = ρ := set_same hj
  refine ⟨zs, v', ?_, hv', by rw [hz]; exact Nat.zero_add n, hin⟩
  refine x_comp (items := (List.range n).map fun i => PV.int (i : Nat)) (ρ1 := ρ) (ρ2 := ρ.set i (.ow v')) (range_ev hen (by omega)) ?_ (by rw [hw]; exact e1) ?_
  · unfold ownFree
    simp [hj]
  · show (ρ.set i (.ow v')).set j (ρ.getD j .un) = ρ.set i (.ow v')
    have : ρ.getD j .un = .un := by rw [List.getD_eq_getElem?_getD, hj]; rfl
    rw [this]
    exact set_same (by rw [List.getElem?_set_ne hij]; exact hj)
/-- list(range(n)) -/
theorem rng_ev {C : Cl} {e : Ex} {ρ ρ1 : Env} {n : Nat} (h : evE G C e ρ = some (.fz (.int (n : Int)), ρ1)) (hn : n ≤ 1000000) : evE G C (.rng1 false e) ρ = some (.fr (.lst (((List.range n).map fun i => ((i : Nat) : Int)).map PV.int)), ρ1) := by
  rw [x_rng1, h, Option.bind_some, val_fz, range_nat n hn, Option.bind_some, range_ints]
  unfold mkSeq
  rw [if_pos (by rw [List.length_map, List.length_map, List.length_range]; unfold LIM; omega)]
  rfl
end EV.Law
set_option linter.all false
set_option maxRecDepth 100000
namespace EV.Law
open PySem EV
/-! ### what the reading gives is small, and of the right kind -/
theorem rd_len (f : Fm) : ∀ (xs : List Int) (p : Nat) (st : Sd) (T : List (Int × List Int)) (B : List Nat) (T' : List (Int × List Int)) (B' : List Nat), T.length ≤ p → (∀ c ∈ T, c.2.length ≤ p) → rd f st p T B xs = .ok T' B' → T'.length ≤ p + xs.length ∧ ∀ c ∈ T', c.2.length ≤ p + xs.length
  | [], p, st, T, B, T', B', hl, hb, hr => by
    rw [rd_nil] at hr
    split at hr
    · cases hr
      exact ⟨hl, hb⟩
    · cases hr
  | x :: xs, p, st, T, B, T', B', hl, hb, hr => by
    cases hq : stepS f st x with
    | none => rw [rd_stop hq] at hr; cases hr
    | some st' =>
      rw [rd_step hq] at hr
      obtain ⟨l1, l2⟩ := tell_len (f := f) (st := st) (x := x) hl hb
      have h := rd_len f xs (p + 1) st' (tellS f st x T) _ T' B' l1 l2 hr
      have e : p + (x :: xs).length = p + 1 + xs.length := by simp; omega
      rw [e]
      exact h
theorem eqv_rf (r : R) : eqv 1 (R.rf r) := by
  cases r with
  | ok T B => exact .inl (.inl rfl)
  | bad p w =>
    refine .inr ⟨_, .inl rfl, by simp, fun x hx => ?_⟩
    have : x = .int (p : Int) ∨ x = .str w := by simpa using hx
    rcases this with rfl | rfl
    · exact .inr (.inl ⟨_, rfl⟩)
    · exact .inr (.inr ⟨_, rfl⟩)
theorem eqv_sg (ys : List Int) (h : ys.length ≤ 1000) : eqv 1 (sg ys) := by
  refine .inr ⟨_, .inl rfl, by rw [List.length_map]; exact h, fun x hx => ?_⟩
  obtain ⟨y, _, rfl⟩ := List.mem_map.mp hx
  exact .inr (.inl ⟨y, rfl⟩)
theorem eqv_told (T : List (Int × List Int)) (h : T.length ≤ 1000) (hb : ∀ c ∈ T, c.2.length ≤ 1000) : eqv 3 (.tup (T.map chV)) := by
  refine .inr ⟨_, .inl rfl, by rw [List.length_map]; exact h, fun x hx => ?_⟩
  obtain ⟨c, hc, rfl⟩ := List.mem_map.mp hx
  refine .inr ⟨_, .inl rfl, by simp, fun y hy => ?_⟩
  have : y = .int c.1 ∨ y = sg c.2 := by simpa using hy
  rcases this with rfl | rfl
  · exact .inl (.inr (.inl ⟨_, rfl⟩))
  · exact eqv_sg c.2 (hb c hc)
def R.c1 : R → PV
  | .ok T _ => .tup (T.map chV)
  | .bad _ _ => .non
def R.c2 : R → PV
  | .ok _ B => .lst (B.map natV)
  | .bad _ _ => .non
theorem R.pv3 (r : R) : R.pv r = .tup [r.c1, r.c2, r.rf] := by cases r <;> rfl
end EV.Law
set_option linter.all false
set_option maxRecDepth 100000
namespace EV.Law
open PySem EV
/-! ### the places looked at -/
def isHd : Sd → Bool
  | .head _ => true | _ => false
def isRm : Sd → Bool
  | .room => true | _ => false
def isSk : Sd → Bool
  | .body u _ _ => decide (u = .skip) | _ => false
theorem nq_room (st : Sd) : cmpOp .ne st.pv (.tup [.str "room"]) = some (!isRm st) := by
  have h : eqOk st.pv (.tup [.str "room"]) = true := eqOk_sd st .room
  show (if eqOk st.pv (.tup [.str "room"]) = true then some (!peq st.pv (.tup [.str "room"])) else none) = _
  rw [if_pos h]
  have : peq st.pv (.tup [.str "room"]) = isRm st := by cases st <;> simp (decide := true) [Sd.pv, peq, peqs, isRm]
  rw [this]
theorem w_skip (u : U) : cmpOp .eq (.str u.str) (.str "skip") = some (decide (u = .skip)) := by cases u <;> rfl
def L1 : Ex := .cmp .eq (.idx (.var 1) (.lit (.int 0))) (.lit (.str "head"))
def L2 : Ex := .cmp .isnot (.idx (.idx (.var 0) (.lit (.int 1))) (.idx (.var 1) (.lit (.int 1)))) (.lit .non)
def L4 : Ex := .ands [(.cmp .eq (.idx (.var 1) (.lit (.int 0))) (.lit (.str "body"))), (.cmp .eq (.idx (.var 1) (.lit (.int 1))) (.glo g_SKIP))]
def L3 : Ex := .ands [(.cmp .ne (.var 1) (.glo g_ROOM)), (.not L4)]
theorem l4_ev (C : Cl) (f : Fm) (st : Sd) : evE G C L4 [.fz f.pv, .fz st.pv] = some (.fz (.bl (isSk st)), [.fz f.pv, .fz st.pv]) := by
  cases st with
  | body u l t =>
    have h2 : evE G C (.cmp .eq (.idx (.var 1) (.lit (.int 1))) (.glo g_SKIP)) [.fz f.pv, .fz (Sd.body u l t).pv] = some (.fz (.bl (decide (u = .skip))), [.fz f.pv, .fz (Sd.body u l t).pv]) := by
      have h1 : evE G C (.idx (.var 1) (.lit (.int 1))) [.fz f.pv, .fz (Sd.body u l t).pv] = some (.fz (.str u.str), [.fz f.pv, .fz (Sd.body u l t).pv]) := rfl
      exact cmp_val (by rw [h1]; rfl) (by rw [x_glo, v_SKIP]; rfl) (w_skip u)
    have h3 : evE G C (.cmp .eq (.idx (.var 1) (.lit (.int 0))) (.lit (.str "body"))) [.fz f.pv, .fz (Sd.body u l t).pv] = some (.fz (.bl true), [.fz f.pv, .fz (Sd.body u l t).pv]) := rfl
    rw [L4, x_ands, x_and2, h3, andK_bl, if_pos rfl, x_and1, h2]
    rfl
  | _ => rfl
theorem e_is_looking (k : Nat) (f : Fm) (st : Sd) (ho : sdOk f (some st)) : evCl G F (k + 1) c_is_looking [(false, f.pv), (false, st.pv)] = some (.fz (.bl (lookS f st)), []) := by
  refine (u_is_looking k _).trans ?_
  generalize evCl G F k = C
  have hm : f_is_looking.m = 2 := rfl
  have hbd : f_is_looking.body = [.ite L1 [.ret L2] [], .ret L3] := rfl
  have h0 : startE 2 [(false, f.pv), (false, st.pv)] = [.fz f.pv, .fz st.pv] := rfl
  have e1 : evE G C L1 [.fz f.pv, .fz st.pv] = some (.fz (.bl (isHd st)), [.fz f.pv, .fz st.pv]) := by cases st <;> rfl
  rw [fn_eq, if_pos (by rw [hm]; exact Nat.le_refl 2), hm, hbd, h0, q_cons, ite_ev e1]
  by_cases hh : isHd st = true
  · obtain ⟨p, rfl⟩ : ∃ p, st = .head p := by cases st <;> first | exact ⟨_, rfl⟩ | cases hh
    rw [if_pos hh]
    have hp : p < f.hd.length := ho
    have hg : f.hd[p]? = some f.hd[p] := List.getElem?_eq_getElem hp
    cases hm : f.hd[p] with
    | none =>
      rw [hm] at hg
      simp [L2, fn_eq, startE, slotOf, q_nil, q_cons, th_nx, th_rt, th_br, th_ct, th_if, s_asgN, s_asgT, s_par, p_nil, p_cons, s_expr, s_ret, s_retN, s_ite, s_setIdx, s_app, setAt, appTo, x_lit, x_glo, x_var, x_tup, x_lst, x_bin, x_neg, x_cmp, x_chain, x_ands, x_ors, x_and1, x_or1, andK_bl, orK_bl, x_and2, x_or2, x_not, x_ite, x_idx, sliceOf, x_slc, x_call, x_callK, x_bi, x_isi, x_rng1, x_rng2, a_nil, a_val, a_ref, k_nil, k_cons, o_none, o_some, val_fz, val_fr, d_slot, d_val, ds_nil, ds_cons, t_some, bw, use, peek, put, modify, truthy, isStr, avGet, avPut, slots, vals?, cmpOp, ords, isIt, isNon, within, b_add, b_sub, b_catT, b_catL, bias, biEv, tyOf, flRv, finE, mkSeq, PV.int?, PV.seq?, PV.lst?, ints?, bindP, bindPs, rangeItems, pick, eo_ii, eo_ss, eo_bb, eo_sn, eo_in, eo_ni, eo_ns, eo_nn, pq_ii, pq_ss, pq_bb, pq_in, pq_ni, pq_sn, pq_ns, pq_nn, Fm.pv, Sd.pv, ixN, hp, hg, hm, mkO, lookS]
    | some i =>
      rw [hm] at hg
      simp [L2, fn_eq, startE, slotOf, q_nil, q_cons, th_nx, th_rt, th_br, th_ct, th_if, s_asgN, s_asgT, s_par, p_nil, p_cons, s_expr, s_ret, s_retN, s_ite, s_setIdx, s_app, setAt, appTo, x_lit, x_glo, x_var, x_tup, x_lst, x_bin, x_neg, x_cmp, x_chain, x_ands, x_ors, x_and1, x_or1, andK_bl, orK_bl, x_and2, x_or2, x_not, x_ite, x_idx, sliceOf, x_slc, x_call, x_callK, x_bi, x_isi, x_rng1, x_rng2, a_nil, a_val, a_ref, k_nil, k_cons, o_none, o_some, val_fz, val_fr, d_slot, d_val, ds_nil, ds_cons, t_some, bw, use, peek, put, modify, truthy, isStr, avGet, avPut, slots, vals?, cmpOp, ords, isIt, isNon, within, b_add, b_sub, b_catT, b_catL, bias, biEv, tyOf, flRv, finE, mkSeq, PV.int?, PV.seq?, PV.lst?, ints?, bindP, bindPs, rangeItems, pick, eo_ii, eo_ss, eo_bb, eo_sn, eo_in, eo_ni, eo_ns, eo_nn, pq_ii, pq_ss, pq_bb, pq_in, pq_ni, pq_sn, pq_ns, pq_nn, Fm.pv, Sd.pv, ixN, hp, hg, hm, mkO, lookS]
  · rw [if_neg hh, q_nil, th_nx, q_cons, s_ret]
    have c1 : evE G C (.cmp .ne (.var 1) (.glo g_ROOM)) [.fz f.pv, .fz st.pv] = some (.fz (.bl (!isRm st)), [.fz f.pv, .fz st.pv]) := cmp_vg rfl v_ROOM (nq_room st)
    rw [L3, x_ands, x_and2, c1, andK_bl]
    have hl : lookS f st = (!isRm st && !isSk st) := by
      cases st with
      | head p => exact absurd rfl hh
      | body u l t =>
        show decide (u ≠ .skip) = (true && !decide (u = .skip))
        by_cases hu : u = .skip <;> simp [hu]
      | _ => rfl
    rw [hl]
    by_cases hr : isRm st = true
    · rw [hr]
      rfl
    · have hr' : isRm st = false := by simpa using hr
      rw [hr', if_pos (show (!false) = true from rfl), x_and1, not_ev (l4_ev C f st)]
      rfl
/-! what is looked at, of what is not -/
def lkd (B : List Nat) (p n : Nat) : List Nat := (List.range' p n).filter fun i => !B.contains i
theorem rd_more (f : Fm) : ∀ (xs : List Int) (p : Nat) (st : Sd) (T : List (Int × List Int)) (B : List Nat) (T' : List (Int × List Int)) (B' : List Nat), rd f st p T B xs = .ok T' B' → ∃ B2, B' = B ++ B2 ∧ ∀ b ∈ B2, p ≤ b ∧ b < p + xs.length
  | [], p, st, T, B, T', B', h => by
    rw [rd_nil] at h
    split at h
    · cases h
      exact ⟨[], by simp, fun b hb => by cases hb⟩
    · cases h
  | x :: xs, p, st, T, B, T', B', h => by
    cases hq : stepS f st x with
    | none => rw [rd_stop hq] at h; cases h
    | some st' =>
      rw [rd_step hq] at h
      obtain ⟨B2, e, hb⟩ := rd_more f xs (p + 1) st' _ _ T' B' h
      by_cases hl : lookS f st = true
      · rw [if_pos hl] at e
        exact ⟨B2, e, fun b h => by have := hb b h; rw [List.length_cons]; omega⟩
      · rw [if_neg hl] at e
        refine ⟨p :: B2, by rw [e]; simp, fun b h => ?_⟩
        rw [List.length_cons]
        rcases List.mem_cons.mp h with rfl | h
        · omega
        · have := hb b h; omega
theorem rd_look {f : Fm} {x : Int} {xs : List Int} {p : Nat} {st : Sd} {T : List (Int × List Int)} {B : List Nat} {T' : List (Int × List Int)} {B' : List Nat} (hB : ∀ b ∈ B, b < p) (h : rd f st p T B (x :: xs) = .ok T' B') : B'.contains p = !lookS f st := by
  cases hq : stepS f st x with
  | none => rw [rd_stop hq] at h; cases h
  | some st' =>
    rw [rd_step hq] at h
    obtain ⟨B2, e, hb⟩ := rd_more f xs (p + 1) st' _ _ T' B' h
    by_cases hl : lookS f st = true
    · rw [if_pos hl] at e
      rw [hl]
      have : ¬ p ∈ B' := fun hm => by
        rw [e] at hm
        rcases List.mem_append.mp hm with hm | hm
        · have := hB p hm; omega
        · have := hb p hm; omega
      simpa using this
    · have hl' : lookS f st = false := by simpa using hl
      rw [if_neg hl] at e
      rw [hl']
      have : p ∈ B' := by rw [e]; simp
      simpa using this
theorem star_ev {C : Cl} {i j : Nat} {ρ : Env} {xs : List PV} {v : PV} (hi : ρ[i]? = some (.ow (.lst xs))) (hj : ρ[j]? = some (.fz v)) (hij : i ≠ j) (hl : xs.length + 1 ≤ 10000000) : evE G C (.lst [(.star, (.var i)), (.val, (.var j))]) ρ = some (.fr (.lst (xs ++ [v])), ρ.set i (.fz (.lst xs))) := by
  have hj' : (ρ.set i (.fz (.lst xs)))[j]? = some (.fz v) := by rw [gs_ne hij]; exact hj
  rw [x_lst, a_star, v_ow hi, Option.bind_some]
  show ((some xs).bind fun xs => _).bind _ = _
  rw [Option.bind_some, a_val, v_fz hj', Option.bind_some, a_nil, Option.map_some, Option.map_some, Option.bind_some]
  show (vals? (xs.map .val ++ [.val v])).bind _ = _
  rw [vals_app]
  show (some (xs ++ [v])).bind _ = _
  rw [Option.bind_some, if_pos (by rw [List.length_append]; show xs.length + 1 ≤ LIM; unfold LIM; omega)]
def lkBody : List Sm := [.ite (.call c_is_looking [(.val, (.var 0)), (.val, (.var 2))])
       [.asg (.name 3) (.lst [(.star, (.var 3)), (.val, (.var 4))])]
       [],
     .asg (.name 2) (.call c_step [(.val, (.var 0)), (.val, (.var 2)), (.val, (.var 5))])]
def LK (f : Fm) (xv : PV) (st : Sd) (A : List Nat) (o4 o5 : Option PV) : Env := [.fz f.pv, .fz xv, .fz st.pv, .ow (.lst (A.map natV)), sl o4, sl o5]
theorem lk_turn (k : Nat) (f : Fm) (hf : f.Ok) (xv : PV) (st st' : Sd) (ho : sdOk f (some st)) (p : Nat) (x : Int) (A : List Nat) (hA : A.length ≤ 1000000) (o4 o5 : Option PV) (h : stepS f st x = some st') :
    fT G (evCl G F (k + 3)) (.tup [(.name 4), (.name 5)]) lkBody (.tup [.int (p : Int), .int x]) (LK f xv st A o4 o5) = some (.nx, LK f xv st' (if lookS f st then A ++ [p] else A) (some (.int (p : Int))) (some (.int x))) := by
  have hs := e_step k f hf st ho x
  rw [h] at hs
  have hs : evCl G F (k + 3) c_step [(false, f.pv), (false, st.pv), (false, .int x)] = some (.fz st'.pv, []) := hs
  have hk := e_is_looking (k + 2) f st ho
  have hb : bindP (.tup [(.name 4), (.name 5)]) (.tup [.int (p : Int), .int x]) (LK f xv st A o4 o5) = some (LK f xv st A (some (.int (p : Int))) (some (.int x))) := by cases o4 <;> cases o5 <;> rfl
  have e1 : evE G (evCl G F (k + 3)) (.call c_is_looking [(.val, (.var 0)), (.val, (.var 2))]) (LK f xv st A (some (.int (p : Int))) (some (.int x))) = some (.fz (.bl (lookS f st)), LK f xv st A (some (.int (p : Int))) (some (.int x))) :=
    val_call (vs := [f.pv, st.pv]) (a1 (v_fz rfl) rfl (a1 (v_fz rfl) rfl a0)) hk
  have e2 : ∀ A' : List Nat, evS G (evCl G F (k + 3)) (.asg (.name 2) (.call c_step [(.val, (.var 0)), (.val, (.var 2)), (.val, (.var 5))])) (LK f xv st A' (some (.int (p : Int))) (some (.int x))) = some (.nx, LK f xv st' A' (some (.int (p : Int))) (some (.int x))) := fun A' => by
    have hc : evE G (evCl G F (k + 3)) (.call c_step [(.val, (.var 0)), (.val, (.var 2)), (.val, (.var 5))]) (LK f xv st A' (some (.int (p : Int))) (some (.int x))) = some (.fz st'.pv, LK f xv st A' (some (.int (p : Int))) (some (.int x))) :=
      val_call (vs := [f.pv, st.pv, .int x]) (a1 (v_fz rfl) rfl (a1 (v_fz rfl) rfl (a1 (v_fz rfl) rfl a0))) hs
    rw [s_asgN, hc]
    rfl
  rw [fT, hb, Option.bind_some, lkBody, q_cons, ite_ev e1]
  by_cases hl : lookS f st = true
  · have e3 : evS G (evCl G F (k + 3)) (.asg (.name 3) (.lst [(.star, (.var 3)), (.val, (.var 4))])) (LK f xv st A (some (.int (p : Int))) (some (.int x))) = some (.nx, LK f xv st (A ++ [p]) (some (.int (p : Int))) (some (.int x))) := by
      rw [s_asgN, star_ev (C := evCl G F (k + 3)) (i := 3) (j := 4) (xs := A.map natV) (v := .int (p : Int)) rfl rfl (by decide) (by rw [List.length_map]; omega)]
      unfold LK
      rw [List.map_append]
      rfl
    rw [if_pos hl, if_pos hl, q_cons, e3, th_nx, q_nil, th_nx, q_cons, e2, th_nx]
    rfl
  · rw [if_neg hl, if_neg hl, q_nil, th_nx, q_cons, e2, th_nx]
    rfl
theorem lk_loop (k : Nat) (f : Fm) (hf : f.Ok) (xv : PV) : ∀ (xs : List Int) (p : Nat) (st : Sd) (T : List (Int × List Int)) (B : List Nat) (A : List Nat) (o4 o5 : Option PV) (T' : List (Int × List Int)) (B' : List Nat), sdOk f (some st) → A.length ≤ p → p + xs.length ≤ 1000000 → (∀ b ∈ B, b < p) → rd f st p T B xs = .ok T' B' →
    ∃ st' q4 q5, forLoop (fT G (evCl G F (k + 3)) (.tup [(.name 4), (.name 5)]) lkBody) (enumItems p (xs.map PV.int)) (LK f xv st A o4 o5) = some (.nx, LK f xv st' (A ++ lkd B' p xs.length) q4 q5)
  | [], p, st, T, B, A, o4, o5, T', B', ho, hA, hp, hB, hr => ⟨st, o4, o5, by
    have : lkd B' p ([] : List Int).length = [] := rfl
    rw [this, List.append_nil]
    rfl⟩
  | x :: xs, p, st, T, B, A, o4, o5, T', B', ho, hA, hp, hB, hr => by
    have hp' : p + (xs.length + 1) ≤ 1000000 := hp
    have hlk := rd_look hB hr
    cases hq : stepS f st x with
    | none => rw [rd_stop hq] at hr; cases hr
    | some st' =>
      rw [rd_step hq] at hr
      have hst := step_ok f st x
      rw [hq] at hst
      obtain ⟨s2, q4, q5, e⟩ := lk_loop k f hf xv xs (p + 1) st' (tellS f st x T) (if lookS f st then B else B ++ [p]) (if lookS f st then A ++ [p] else A) (some (.int (p : Int))) (some (.int x)) T' B' hst (by
        split
        · rw [List.length_append]; show A.length + 1 ≤ p + 1; omega
        · omega) (by omega) (fun b hb => by
        split at hb
        · have := hB b hb; omega
        · rcases List.mem_append.mp hb with hb | hb
          · have := hB b hb; omega
          · have : b = p := by simpa using hb
            omega) hr
      refine ⟨s2, q4, q5, ?_⟩
      rw [List.map_cons]
      show forLoop _ (.tup [.int (p : Int), .int x] :: enumItems (p + 1) (xs.map PV.int)) _ = _
      rw [forLoop, lk_turn k f hf xv st st' ho p x A (by omega) o4 o5 hq]
      refine e.trans ?_
      have hl : (if lookS f st = true then A ++ [p] else A) ++ lkd B' (p + 1) xs.length = A ++ lkd B' p (x :: xs).length := by
        unfold lkd
        rw [List.length_cons, List.range'_succ]
        by_cases hl : lookS f st = true
        · rw [hl] at hlk
          rw [if_pos hl, List.filter_cons_of_pos (by rw [hlk]; rfl), List.append_assoc]
          rfl
        · have hl' : lookS f st = false := by simpa using hl
          rw [hl'] at hlk
          rw [if_neg hl, List.filter_cons_of_neg (by rw [hlk]; decide)]
      rw [hl]
theorem e_looked_in (k : Nat) (f : Fm) (hf : f.Ok) (xs : List Int) (hl : xs.length ≤ 1000000) (T : List (Int × List Int)) (B : List Nat) (h : rd f (firstS f) 0 [] [] xs = .ok T B) : evCl G F (k + 4) c_looked_in [(false, f.pv), (false, sg xs)] = some (.fr (.lst ((lkd B 0 xs.length).map natV)), []) := by
  refine (u_looked_in (k + 3) _).trans ?_
  have hm : f_looked_in.m = 6 := rfl
  have hbd : f_looked_in.body = [.par [2, 3] [(.call c_first_stand [(.val, (.var 0))]), (.lst [])], .for_ (.tup [(.name 4), (.name 5)]) (.enum (.var 1)) lkBody, .ret (.take 3)] := rfl
  have h1 : evS G (evCl G F (k + 3)) (.par [2, 3] [(.call c_first_stand [(.val, (.var 0))]), (.lst [])]) (startE 6 [(false, f.pv), (false, sg xs)]) = some (.nx, LK f (sg xs) (firstS f) [] none none) := by
    have hs := e_first (k + 2) f
    have hc : evE G (evCl G F (k + 3)) (.call c_first_stand [(.val, (.var 0))]) (startE 6 [(false, f.pv), (false, sg xs)]) = some (.fz (firstS f).pv, startE 6 [(false, f.pv), (false, sg xs)]) := val_call (vs := [f.pv]) (a1 (v_fz rfl) rfl a0) hs
    rw [s_par, p_cons, hc]
    rfl
  have hi : evI G (evCl G F (k + 3)) (.enum (.var 1)) (LK f (sg xs) (firstS f) [] none none) = some (enumItems 0 (xs.map PV.int), LK f (sg xs) (firstS f) [] none none) := rfl
  obtain ⟨st', q4, q5, e⟩ := lk_loop k f hf (sg xs) xs 0 (firstS f) [] [] [] none none T B (first_ok f) (Nat.le_refl _) (by omega) (fun b hb => by cases hb) h
  rw [List.nil_append] at e
  rw [fn_eq, if_pos (by rw [hm]; show 2 ≤ 6; omega), hm, hbd, q_cons, h1, th_nx, q_cons, s_for, hi, Option.bind_some, e, th_nx]
  rfl
theorem e_looked_at (k : Nat) (f : Fm) (hf : f.Ok) (xs : List Int) (hl : xs.length ≤ 1000000) (hx : ∀ x ∈ xs, inB f.b x = true) (T : List (Int × List Int)) (B : List Nat) (h : rd f (firstS f) 0 [] [] xs = .ok T B) : evCl G F (k + 6) c_looked_at [(false, f.pv), (false, sg xs)] = some (.fr (.lst ((lkd B 0 xs.length).map natV)), []) := by
  refine (u_looked_at (k + 5) _).trans ?_
  have h1 := e_check_format k f hf
  have h2 := e_check_file k f xs (by unfold LIM; omega) hx
  have h3 := e_check_read k f hf xs T B h
  have h4 := e_looked_in (k + 1) f hf xs hl T B h
  have h4 : evCl G F (k + 5) c_looked_in [(false, f.pv), (false, sg xs)] = some (.fr (.lst ((lkd B 0 xs.length).map natV)), []) := h4
  generalize f.pv = z1 at *
  generalize sg xs = z2 at *
  generalize PV.lst ((lkd B 0 xs.length).map natV) = z3 at *
  simp [f_looked_at, fn_eq, startE, slotOf, q_nil, q_cons, th_nx, th_rt, th_br, th_ct, th_if, s_asgN, s_asgT, s_par, p_nil, p_cons, s_expr, s_ret, s_retN, s_ite, s_setIdx, s_app, setAt, appTo, x_lit, x_glo, x_var, x_tup, x_lst, x_bin, x_neg, x_cmp, x_chain, x_ands, x_ors, x_and1, x_or1, andK_bl, orK_bl, x_and2, x_or2, x_not, x_ite, x_idx, sliceOf, x_slc, x_call, x_callK, x_bi, x_isi, x_rng1, x_rng2, a_nil, a_val, a_ref, k_nil, k_cons, o_none, o_some, val_fz, val_fr, d_slot, d_val, ds_nil, ds_cons, t_some, bw, use, peek, put, modify, truthy, isStr, avGet, avPut, slots, vals?, cmpOp, ords, isIt, isNon, within, b_add, b_sub, b_catT, b_catL, bias, biEv, tyOf, flRv, finE, mkSeq, PV.int?, PV.seq?, PV.lst?, ints?, bindP, bindPs, rangeItems, pick, eo_ii, eo_ss, eo_bb, eo_sn, eo_in, eo_ni, eo_ns, eo_nn, pq_ii, pq_ss, pq_bb, pq_in, pq_ni, pq_sn, pq_ns, pq_nn, h1, h2, h3, h4]
/-! what is not looked at may be another sign -/
theorem step_blind (f : Fm) (st : Sd) (x y : Int) (h : lookS f st = false) : stepS f st x = stepS f st y ∧ ∀ T, tellS f st x T = tellS f st y T := by
  cases st with
  | head p =>
    refine ⟨?_, fun _ => rfl⟩
    rw [step_headE, step_headE]
    have h : (match f.hd[p]? with | some (some _) => true | _ => false) = false := h
    split at h
    · cases h
    · rename_i hn
      cases hg : f.hd[p]? with
      | none => rfl
      | some o =>
        cases o with
        | none => rfl
        | some i => exact absurd hg (hn i)
  | room => exact ⟨rfl, fun _ => rfl⟩
  | body u l t =>
    have hu : u = .skip := by
      have h : decide (u ≠ .skip) = false := h
      simpa using h
    subst hu
    exact ⟨rfl, fun _ => rfl⟩
  | _ => cases h
theorem rd_blind (f : Fm) : ∀ (xs ys : List Int) (p : Nat) (st : Sd) (T : List (Int × List Int)) (B : List Nat) (T' : List (Int × List Int)) (B' : List Nat), ys.length = xs.length → (∀ b ∈ B, b < p) → (∀ i : Nat, ys[i]? = xs[i]? ∨ p + i ∈ B') → rd f st p T B xs = .ok T' B' → rd f st p T B ys = .ok T' B'
  | [], [], p, st, T, B, T', B', _, _, _, h => h
  | [], y :: ys, p, st, T, B, T', B', hl, _, _, _ => by simp at hl
  | x :: xs, [], p, st, T, B, T', B', hl, _, _, _ => by simp at hl
  | x :: xs, y :: ys, p, st, T, B, T', B', hl, hB, hd, h => by
    have hlk := rd_look hB h
    have hs : stepS f st x = stepS f st y ∧ ∀ T, tellS f st x T = tellS f st y T := by
      rcases hd 0 with e | e
      · have e : y = x := by simpa using e
        rw [e]
        exact ⟨rfl, fun _ => rfl⟩
      · refine step_blind f st x y ?_
        have : B'.contains p = true := by simpa using e
        rw [this] at hlk
        cases hz : lookS f st with
        | false => rfl
        | true => rw [hz] at hlk; cases hlk
    cases hq : stepS f st x with
    | none => rw [rd_stop hq] at h; cases h
    | some st' =>
      rw [rd_step hq] at h
      rw [hs.1] at hq
      rw [rd_step hq, ← hs.2]
      refine rd_blind f xs ys (p + 1) st' _ _ T' B' (by simpa using hl) (fun b hb => ?_) (fun i => ?_) h
      · split at hb
        · have := hB b hb; omega
        · rcases List.mem_append.mp hb with hb | hb
          · have := hB b hb; omega
          · have : b = p := by simpa using hb
            omega
      · have := hd (i + 1)
        have e : p + (i + 1) = p + 1 + i := by omega
        rw [e] at this
        simpa using this
def Dv (xs : List Int) (B : List Nat) : PV := .lst ((lkd B 0 xs.length).map natV)
theorem Dv_len (xs : List Int) (B : List Nat) : (lkd B 0 xs.length).length ≤ xs.length := by
  unfold lkd
  refine Nat.le_trans (List.length_filter_le _ _) ?_
  rw [List.length_range']
  exact Nat.le_refl _
theorem eqv_D (xs : List Int) (B : List Nat) (h : xs.length ≤ 1000) : eqv 1 (Dv xs B) := by
  have := Dv_len xs B
  refine .inr ⟨_, .inr rfl, by rw [List.length_map]; omega, fun x hx => ?_⟩
  obtain ⟨b, _, rfl⟩ := List.mem_map.mp hx
  exact .inr (.inl ⟨_, rfl⟩)
end EV.Law
set_option linter.all false
set_option maxRecDepth 100000
namespace EV.Law
open PySem EV
/-- an item of a written list, drawn from the bag at slot 3 -/
theorem draw_from {k q : Nat} {ρ : Env} {v : PV} {es : List (AK × Ex)} {is : List Int} {n : Nat} (h : ρ[3]? = some (.ow v)) (hv : BG (q + 1) v) (hn : is.length = n) (h0 : 0 < n) (h1 : n ≤ 1000) (ha : evE G (evCl G F (k + 1)) (.lst es) ρ = some (.fr (.lst (is.map PV.int)), ρ)) (hb : bw (.lst es) (evE G (evCl G F (k + 1)) (.lst es) ρ) ρ = some (.val (.lst (is.map PV.int)), ρ)) :
    ∃ (x : Int) (v' : PV), x ∈ is ∧ evE G (evCl G F (k + 1)) (.idx (.lst es) (.call c_law_grab [(.ref, (.var 3)), (.val, (.lit (.int (n : Int))))])) ρ = some (.fz (.int x), ρ.set 3 (.ow v')) ∧ BG q v' := by
  obtain ⟨d, v', g, p1, p2, hv'⟩ := grab_at (k := k) (q := q) (i := 3) (ρ := ρ) (v := v) (e := .lit (.int (n : Int))) (b := (n : Int)) h rfl hv (by omega) (by omega)
  obtain ⟨x, hx, e⟩ := draw_at ha hb g p1 (by rw [hn]; exact p2)
  exact ⟨x, v', hx, e, hv'⟩
theorem isnot_v {C : Cl} {i : Nat} {ρ : Env} {v : PV} (h : ρ[i]? = some (.fz v)) : evE G C (.cmp .isnot (.var i) (.lit .non)) ρ = some (.fz (.bl (!isNon v)), ρ) := by
  rw [x_cmp, bw_v (pk_fz h), Option.bind_some]
  show (deref (.slot i) ρ).bind _ = _
  rw [d_slot, pk_fz h]
  rfl
/-- a slot that holds v, owned or not -/
def Hz (ρ : Env) (i : Nat) (v : PV) : Prop := ρ[i]? = some (.ow v) ∨ ρ[i]? = some (.fz v)
theorem v_hz {C : Cl} {i : Nat} {ρ : Env} {v : PV} (h : Hz ρ i v) : evE G C (.var i) ρ = some (.fz v, ρ.set i (.fz v)) := by
  rcases h with h | h
  · exact v_ow h
  · rw [v_fz h, set_same h]
theorem Hz.set {ρ : Env} {i j : Nat} {v : PV} {s : Slot} (h : Hz ρ i v) (n : j ≠ i) : Hz (ρ.set j s) i v := by
  rcases h with h | h
  · exact .inl (by rw [gs_ne n]; exact h)
  · exact .inr (by rw [gs_ne n]; exact h)
theorem Hz.pk {ρ : Env} {i : Nat} {v : PV} (h : Hz ρ i v) : peek i ρ = some v := by
  rcases h with h | h
  · exact pk_ow h
  · exact pk_fz h
/-- three names of a tuple -/
theorem bind3 {a b c : PV} {i j l : Nat} {ρ : Env} (hf : Fr ρ) (hi : i < ρ.length) (hj : j < ρ.length) (hl : l < ρ.length) : bindP (.tup [(.name i), (.name j), (.name l)]) (.tup [a, b, c]) ρ = some (((ρ.set i (.fz a)).set j (.fz b)).set l (.fz c)) := by
  show (bindP (.name i) a ρ).bind _ = _
  rw [bind_nm a hf hi, Option.bind_some]
  show (bindP (.name j) b _).bind _ = _
  rw [bind_nm b (hf.fz i a) (by rw [List.length_set]; exact hj), Option.bind_some]
  show (bindP (.name l) c _).bind _ = _
  rw [bind_nm c ((hf.fz i a).fz j b) (by rw [List.length_set, List.length_set]; exact hl), Option.bind_some]
  rfl
theorem callK2r (C : Cl) (g : Nat) (a b : Ex) (P Y : PV) (r : RV) (ρ : Env) (ha : evE G C a ρ = some (.fz Y, ρ)) (hb : evE G C b ρ = some (.fz P, ρ)) (hc : C g [(false, P), (false, Y)] = some (r, [])) : evE G C (.callK g [] [a, b] [1, 0]) ρ = some (r, ρ) := by
  have hk : evKs G C [a, b] ρ = some ([Y, P], ρ) := by
    rw [k_cons, ha, Option.bind_some, k_cons, hb, Option.bind_some, k_nil]
    rfl
  rw [x_callK, a_nil, Option.bind_some, hk, Option.bind_some]
  have hp : (pick (([] : List PV) ++ [Y, P]) [1, 0]) = some [P, Y] := rfl
  have hv : vals? ([] : List Bw) = some [] := rfl
  rw [hv, Option.bind_some, hp, Option.bind_some]
  show (C g [(false, P), (false, Y)]).map _ = _
  rw [hc]
  rfl
/-- appending to an owned list -/
theorem s_appO {C : Cl} {i : Nat} {e : Ex} {ρ : Env} {r : RV} {xs : List PV} (h : ρ[i]? = some (.ow (.lst xs))) (he : evE G C e ρ = some (r, ρ)) (hl : xs.length ≤ 1000000) : evS G C (.app i e) ρ = some (.nx, ρ.set i (.ow (.lst (xs ++ [r.val])))) := by
  rw [s_app, pk_ow h, Option.bind_some]
  show ((some xs).bind fun _ => _) = _
  rw [Option.bind_some, he, Option.bind_some]
  show ((modify i (appTo r.val) ρ).map _) = _
  have : modify i (appTo r.val) ρ = some (ρ.set i (.ow (.lst (xs ++ [r.val])))) := by
    unfold modify
    rw [h]
    show ((if xs.length < LIM then some (PV.lst (xs ++ [r.val])) else none).map _) = _
    rw [if_pos (by unfold LIM; omega)]
    rfl
  rw [this]
  rfl
/-- for x in range(n) if x not in a list -/
theorem notin_ev (B : List Nat) (i : Nat) : cmpOp .notin (natV i) (.lst (B.map natV)) = some (!B.contains i) := by
  have h1 : ((B.map natV).all fun y => eqOk y (natV i)) = true := by
    rw [List.all_eq_true]
    intro y hy
    obtain ⟨b, _, rfl⟩ := List.mem_map.mp hy
    exact eo_ii _ _
  have h2 : ((B.map natV).any fun y => peq y (natV i)) = B.contains i := by
    induction B with
    | nil => rfl
    | cons b B ih =>
      rw [List.map_cons, List.any_cons, ih (by rw [List.map_cons, List.all_cons, Bool.and_eq_true] at h1; exact h1.2), List.contains_cons]
      congr 1
      show (((b : Nat) : Int) == ((i : Nat) : Int)) = (i == b)
      by_cases hb : b = i
      · rw [hb]; simp
      · have h3 : (((b : Nat) : Int) == ((i : Nat) : Int)) = false := by
          rw [beq_eq_false_iff_ne]; omega
        have h4 : (i == b) = false := by rw [beq_eq_false_iff_ne]; omega
        rw [h3, h4]
  show (if ((B.map natV).all fun y => eqOk y (natV i)) = true then some (if true = true then !((B.map natV).any fun y => peq y (natV i)) else _) else none) = _
  rw [if_pos h1, if_pos rfl, h2]
theorem comp_notin {C : Cl} {i j n : Nat} {en : Ex} {ρ : Env} {B : List Nat} (hij : j ≠ i) (hi : ρ[i]? = some (.fz (.lst (B.map natV)))) (hj : ρ[j]? = some .un) (hf : Fr ρ) (hn : n ≤ 1000000) (hen : evE G C en ρ = some (.fz (.int (n : Int)), ρ)) :
    evE G C (.comp (.var j) [j] (.name j) (.range [(.val, en)]) [(.cmp .notin (.var j) (.var i))]) ρ = some (.fr (.lst (((List.range n).filter fun i => !B.contains i).map natV)), ρ) := by
  have jl : j < ρ.length := (List.getElem?_eq_some_iff.mp hj).1
  have hw : wipe ρ [j] = ρ := set_same hj
  refine x_comp (items := (List.range n).map natV) (ρ1 := ρ) (ρ2 := ρ) (range_ev hen hn) (by unfold ownFree; simp [hj]) ?_ ?_
  · rw [hw]
    have := comp_filter (turn := cT G C (.var j) [j] (.name j) [(.cmp .notin (.var j) (.var i))]) (f := natV) (enc := natV) (p := fun i => !B.contains i) (ρ := ρ) (List.range n) [] (fun x hx => ?_) (by rw [List.length_range]; unfold LIM; show 0 + n ≤ _; omega)
    · exact this
    · have g1 : (ρ.set j (.fz (natV x)))[j]? = some (.fz (natV x)) := List.getElem?_set_self jl
      have g2 : (ρ.set j (.fz (natV x)))[i]? = some (.fz (.lst (B.map natV))) := by rw [gs_ne hij]; exact hi
      have hc : evE G C (.cmp .notin (.var j) (.var i)) (ρ.set j (.fz (natV x))) = some (.fz (.bl (!B.contains x)), ρ.set j (.fz (natV x))) := by
        rw [x_cmp, bw_v (pk_fz g1), Option.bind_some, bw_v (pk_fz g2), Option.bind_some, d_slot, pk_fz g1, Option.bind_some, d_slot, pk_fz g2, Option.bind_some, notin_ev]
        rfl
      have hz : wipe (ρ.set j (.fz (natV x))) [j] = ρ := by
        show (ρ.set j (.fz (natV x))).set j .un = ρ
        rw [List.set_set, set_same hj]
      rw [cT, bind_nm _ hf jl, Option.bind_some]
      show ((tst (evE G C (.cmp .notin (.var j) (.var i)) (ρ.set j (.fz (natV x))))).bind _) = _
      rw [hc, tst_bl, Option.bind_some]
      show (if (!B.contains x) = true then ((evE G C (.var j) (ρ.set j (.fz (natV x)))).map _) else _) = _
      rw [v_fz g1]
      by_cases hb : (!B.contains x) = true
      · rw [if_pos hb, if_pos hb, Option.map_some, hz]
        rfl
      · rw [if_neg hb, if_neg hb, hz]
  · show ρ.set j (ρ.getD j .un) = ρ
    have : ρ.getD j .un = .un := by rw [List.getD_eq_getElem?_getD, hj]; rfl
    rw [this]
    exact set_same hj
theorem nums_at {n : Nat} {is : List Int} {d : Int} (h0 : 0 ≤ d) (h1 : d < n) (hn : is.length = n) : ∃ x, x ∈ is ∧ ixN (is.map PV.int).length d = some d.toNat ∧ (is.map PV.int)[d.toNat]? = some (.int x) := by
  have hd : d.toNat < is.length := by omega
  refine ⟨is[d.toNat], List.getElem_mem hd, ?_, by rw [List.getElem?_map, List.getElem?_eq_getElem hd]; rfl⟩
  unfold ixN
  rw [List.length_map, if_pos h0, if_pos (by omega)]
theorem idx_lst {C : Cl} {es : List (AK × Ex)} {e : Ex} {ρ ρ1 ρ2 : Env} {is : List Int} {d : Int} {n : Nat} (ha : evAs G C es ρ = some (is.map fun i => Bw.val (.int i), ρ1)) (he : evE G C e ρ1 = some (.fz (.int d), ρ2)) (h0 : 0 ≤ d) (h1 : d < n) (hn : is.length = n) (hl : n ≤ 1000) :
    ∃ x, x ∈ is ∧ evE G C (.idx (.lst es) e) ρ = some (.fz (.int x), ρ2) := by
  obtain ⟨x, hx, i1, i2⟩ := nums_at h0 h1 hn
  refine ⟨x, hx, ?_⟩
  have hv : vals? (is.map fun i => Bw.val (.int i)) = some (is.map PV.int) := by
    have := vals_map (is.map PV.int)
    rw [List.map_map] at this
    exact this
  have hlst : evE G C (.lst es) ρ = some (.fr (.lst (is.map PV.int)), ρ1) := by
    rw [x_lst, ha]
    show (vals? (is.map fun i => Bw.val (.int i))).bind _ = _
    rw [hv, Option.bind_some, if_pos (by rw [List.length_map]; unfold LIM; omega)]
  rw [x_idx, hlst]
  show (evE G C e ρ1).bind _ = _
  rw [he]
  show ((some (is.map PV.int)).bind fun xs => _) = _
  rw [Option.bind_some]
  show ((ixN (is.map PV.int).length d).bind fun j => _) = _
  rw [i1]
  show ((is.map PV.int)[d.toNat]?.map _) = _
  rw [i2]
  rfl
end EV.Law
set_option linter.all false
set_option maxRecDepth 100000
namespace EV.Law
open PySem EV
/-! ### what raises -/
theorem xs_nx {C : Cl} {s : Sm} {r : List Sm} {ρ ρ1 : Env} (h : exS G C s ρ = none) (e : evS G C s ρ = some (.nx, ρ1)) : exSs G C (s :: r) ρ = exSs G C r ρ1 := by
  show (match exS G C s ρ with
    | some x => some x
    | none => (evS G C s ρ).bind fun p => match p.1 with
      | .nx => exSs G C r p.2
      | _ => none) = _
  rw [h, e]
  rfl
theorem xs_x {C : Cl} {s : Sm} {r : List Sm} {ρ : Env} {x : Exn × Env} (h : exS G C s ρ = some x) : exSs G C (s :: r) ρ = some x := by
  show (match exS G C s ρ with
    | some x => some x
    | none => (evS G C s ρ).bind fun p => match p.1 with
      | .nx => exSs G C r p.2
      | _ => none) = _
  rw [h]
theorem xs_asg {C : Cl} (p : Pt) (e : Ex) (ρ : Env) : exS G C (.asg p e) ρ = exE G C e ρ := rfl
theorem xs_expr {C : Cl} (e : Ex) (ρ : Env) : exS G C (.expr e) ρ = exE G C e ρ := rfl
theorem xe_call {C : Cl} (f : Nat) (args : List (AK × Ex)) (ρ : Env) : exE G C (.call f args) ρ = exC G C (.call f args) ρ := rfl
theorem exC_quiet {C : Cl} {f : Nat} {args : List (AK × Ex)} {ρ : Env} (h : ∀ us, xcall C f us = none) : exC G C (.call f args) ρ = none := by
  cases args with
  | nil => rfl
  | cons a as =>
    show ((evAs G C (a :: as) ρ).bind fun p => (vals? p.1).bind fun us => (xcall C f us).map fun x => (x, p.2)) = none
    simp [h]
theorem exC_call {C : Cl} {f : Nat} {a : AK × Ex} {as : List (AK × Ex)} {ρ ρ1 : Env} {vs : List PV} {x : Exn} (ha : evAs G C (a :: as) ρ = some (vs.map Bw.val, ρ1)) (h : xcall C f vs = some x) : exC G C (.call f (a :: as)) ρ = some (x, ρ1) := by
  show ((evAs G C (a :: as) ρ).bind fun p => (vals? p.1).bind fun us => (xcall C f us).map fun x => (x, p.2)) = _
  rw [ha, Option.bind_some, vals_map, Option.bind_some, h]
  rfl
theorem xcall_of {C : Cl} {f : Nat} {us : List PV} {x : Exn} (h : C (f + XOFF) (us.map fun v => (false, v)) = some (encX x, [])) : xcall C f us = some x := by
  unfold xcall
  rw [h, Option.bind_some, decX_encX]
theorem q_refusal_of (k : Nat) (us : List PV) : xcall (evCl G F (k + 1)) c_refusal_of us = none := rfl
theorem q_check_format (k : Nat) (us : List PV) : xcall (evCl G F (k + 1)) c_check_format us = none := rfl
theorem q_check_file (k : Nat) (us : List PV) : xcall (evCl G F (k + 1)) c_check_file us = none := rfl
theorem room_at (k : Nat) : evCl G F (k + 2) XROOM [] = some (.fz .non, []) := rfl
theorem exFn_eq {C : Cl} {d : FD} {args : List (Bool × PV)} {x : Exn} {ρ' : Env} (hex : d.ex = true) (hl : args.length ≤ d.m) (ha : (args.all fun p => !p.1) = true) (e : exSs G C d.body (startE d.m args) = some (x, ρ')) : exFn G C d args = some (encX x, []) := by
  unfold exFn
  rw [if_pos hex, if_pos ⟨hl, ha⟩, e]
  rfl
def badX (p : Nat) (w : Str) : Exn := (0, [.int (p : Int), .str w])
def CR1 : Sm := .asg (.name 2) (.call c_refusal_of [(.val, (.var 0)), (.val, (.var 1))])
def CR2 : List Sm := [.asg (.tup [(.name 3), (.name 4)]) (.var 2), .rais 0 [(.val, (.var 3)), (.val, (.var 4))]]
def CRE (f : Fm) (xs : List Int) (p : Nat) (w : Str) (s3 s4 : Slot) : Env := [.fz f.pv, .fz (sg xs), .fz (.tup [.int (p : Int), .str w]), s3, s4]
theorem cr_1 (k : Nat) (f : Fm) (hf : f.Ok) (xs : List Int) (p : Nat) (w : Str) (h : rd f (firstS f) 0 [] [] xs = .bad p w) : evS G (evCl G F (k + 4)) CR1 (startE 5 [(false, f.pv), (false, sg xs)]) = some (.nx, CRE f xs p w .un .un) := by
  have hr := e_refusal_of k f hf xs
  rw [h] at hr
  have hr : evCl G F (k + 4) c_refusal_of [(false, f.pv), (false, sg xs)] = some (.fz (.tup [.int (p : Int), .str w]), []) := hr
  have hc : evE G (evCl G F (k + 4)) (.call c_refusal_of [(.val, (.var 0)), (.val, (.var 1))]) (startE 5 [(false, f.pv), (false, sg xs)]) = some (.fz (.tup [.int (p : Int), .str w]), startE 5 [(false, f.pv), (false, sg xs)]) := val_call (vs := [f.pv, sg xs]) (a1 (v_fz rfl) rfl (a1 (v_fz rfl) rfl a0)) hr
  rw [CR1, s_asgN, hc]
  rfl
theorem cr_c (C : Cl) (f : Fm) (xs : List Int) (p : Nat) (w : Str) : evE G C (.cmp .isnot (.var 2) (.lit .non)) (CRE f xs p w .un .un) = some (.fz (.bl true), CRE f xs p w .un .un) := rfl
theorem x_check_read (k : Nat) (f : Fm) (hf : f.Ok) (xs : List Int) (p : Nat) (w : Str) (h : rd f (firstS f) 0 [] [] xs = .bad p w) : evCl G F (k + 5) (c_check_read + XOFF) [(false, f.pv), (false, sg xs)] = some (encX (badX p w), []) := by
  refine (ux_check_read (k + 4) _).trans ?_
  have hb : f_check_read.body = [CR1, .ite (.cmp .isnot (.var 2) (.lit .non)) CR2 []] := rfl
  have e3 : exS G (evCl G F (k + 4)) (.ite (.cmp .isnot (.var 2) (.lit .non)) CR2 []) (CRE f xs p w .un .un) = some (badX p w, CRE f xs p w (.fz (.int (p : Int))) (.fz (.str w))) := by
    show ((tst (evE G (evCl G F (k + 4)) (.cmp .isnot (.var 2) (.lit .non)) (CRE f xs p w .un .un))).bind fun q => if q.1 then exSs G (evCl G F (k + 4)) CR2 q.2 else exSs G (evCl G F (k + 4)) [] q.2) = _
    rw [cr_c, tst_bl, Option.bind_some, if_pos rfl, CR2, xs_nx (ρ1 := CRE f xs p w (.fz (.int (p : Int))) (.fz (.str w))) rfl rfl]
    refine xs_x ?_
    show ((evCl G F (k + 4) XROOM []).bind fun _ => (evAs G (evCl G F (k + 4)) [(.val, (.var 3)), (.val, (.var 4))] (CRE f xs p w (.fz (.int (p : Int))) (.fz (.str w)))).bind fun q => (vals? q.1).map fun vs => ((0, vs), q.2)) = _
    rw [room_at]
    rfl
  have e : exSs G (evCl G F (k + 4)) f_check_read.body (startE 5 [(false, f.pv), (false, sg xs)]) = some (badX p w, CRE f xs p w (.fz (.int (p : Int))) (.fz (.str w))) := by
    have q1 : exS G (evCl G F (k + 4)) CR1 (startE 5 [(false, f.pv), (false, sg xs)]) = none := by
      rw [CR1, xs_asg, xe_call]
      exact exC_quiet (q_refusal_of (k + 3))
    rw [hb, xs_nx q1 (cr_1 k f hf xs p w h)]
    exact xs_x e3
  exact exFn_eq rfl (show 2 ≤ 5 by omega) rfl e
theorem none_check_read (k : Nat) (f : Fm) (hf : f.Ok) (xs : List Int) (p : Nat) (w : Str) (h : rd f (firstS f) 0 [] [] xs = .bad p w) : evCl G F (k + 5) c_check_read [(false, f.pv), (false, sg xs)] = none := by
  refine (u_check_read (k + 4) _).trans ?_
  have hb : f_check_read.body = [CR1, .ite (.cmp .isnot (.var 2) (.lit .non)) CR2 []] := rfl
  have hm : f_check_read.m = 5 := rfl
  rw [fn_eq, if_pos (by rw [hm]; show 2 ≤ 5; omega), hm, hb, q_cons, cr_1 k f hf xs p w h, th_nx, q_cons, ite_ev (cr_c _ f xs p w), if_pos rfl]
  rfl
def RE1 : Sm := .expr (.call c_check_format [(.val, (.var 0))])
def RE2 : Sm := .expr (.call c_check_file [(.val, (.var 0)), (.val, (.var 1))])
def RE3 : Sm := .expr (.call c_check_read [(.val, (.var 0)), (.val, (.var 1))])
theorem re_1 (k : Nat) (f : Fm) (hf : f.Ok) (xs : List Int) : evS G (evCl G F (k + 5)) RE1 [.fz f.pv, .fz (sg xs)] = some (.nx, [.fz f.pv, .fz (sg xs)]) := by
  have h1 := e_check_format k f hf
  have hc : evE G (evCl G F (k + 5)) (.call c_check_format [(.val, (.var 0))]) [.fz f.pv, .fz (sg xs)] = some (.fz .non, [.fz f.pv, .fz (sg xs)]) := val_call (vs := [f.pv]) (a1 (v_fz rfl) rfl a0) h1
  rw [RE1, s_expr, hc]
  rfl
theorem re_2 (k : Nat) (f : Fm) (xs : List Int) (hl : xs.length ≤ 1000000) (hx : ∀ x ∈ xs, inB f.b x = true) : evS G (evCl G F (k + 5)) RE2 [.fz f.pv, .fz (sg xs)] = some (.nx, [.fz f.pv, .fz (sg xs)]) := by
  have h2 := e_check_file k f xs (by unfold LIM; omega) hx
  have hc : evE G (evCl G F (k + 5)) (.call c_check_file [(.val, (.var 0)), (.val, (.var 1))]) [.fz f.pv, .fz (sg xs)] = some (.fz .non, [.fz f.pv, .fz (sg xs)]) := val_call (vs := [f.pv, sg xs]) (a1 (v_fz rfl) rfl (a1 (v_fz rfl) rfl a0)) h2
  rw [RE2, s_expr, hc]
  rfl
theorem x_three (k : Nat) (f : Fm) (hf : f.Ok) (xs : List Int) (hl : xs.length ≤ 1000000) (hx : ∀ x ∈ xs, inB f.b x = true) (p : Nat) (w : Str) (h : rd f (firstS f) 0 [] [] xs = .bad p w) (r : List Sm) : exSs G (evCl G F (k + 5)) (RE1 :: RE2 :: RE3 :: r) [.fz f.pv, .fz (sg xs)] = some (badX p w, [.fz f.pv, .fz (sg xs)]) := by
  have q1 : exS G (evCl G F (k + 5)) RE1 [.fz f.pv, .fz (sg xs)] = none := by
    rw [RE1, xs_expr, xe_call]
    exact exC_quiet (q_check_format (k + 4))
  have q2 : exS G (evCl G F (k + 5)) RE2 [.fz f.pv, .fz (sg xs)] = none := by
    rw [RE2, xs_expr, xe_call]
    exact exC_quiet (q_check_file (k + 4))
  rw [xs_nx q1 (re_1 k f hf xs), xs_nx q2 (re_2 k f xs hl hx)]
  refine xs_x ?_
  rw [RE3, xs_expr, xe_call]
  exact exC_call (ρ := [.fz f.pv, .fz (sg xs)]) (ρ1 := [.fz f.pv, .fz (sg xs)]) (vs := [f.pv, sg xs]) (a1 (v_fz rfl) rfl (a1 (v_fz rfl) rfl a0)) (xcall_of (x_check_read k f hf xs p w h))
theorem x_read (k : Nat) (f : Fm) (hf : f.Ok) (xs : List Int) (hl : xs.length ≤ 1000000) (hx : ∀ x ∈ xs, inB f.b x = true) (p : Nat) (w : Str) (h : rd f (firstS f) 0 [] [] xs = .bad p w) : evCl G F (k + 6) (c_read + XOFF) [(false, f.pv), (false, sg xs)] = some (encX (badX p w), []) := by
  refine (ux_read (k + 5) _).trans ?_
  have e : exSs G (evCl G F (k + 5)) f_read.body (startE 2 [(false, f.pv), (false, sg xs)]) = some (badX p w, [.fz f.pv, .fz (sg xs)]) := x_three k f hf xs hl hx p w h _
  exact exFn_eq rfl (show 2 ≤ 2 by omega) rfl e
theorem none_read (k : Nat) (f : Fm) (hf : f.Ok) (xs : List Int) (hl : xs.length ≤ 1000000) (hx : ∀ x ∈ xs, inB f.b x = true) (p : Nat) (w : Str) (h : rd f (firstS f) 0 [] [] xs = .bad p w) : evCl G F (k + 6) c_read [(false, f.pv), (false, sg xs)] = none := by
  refine (u_read (k + 5) _).trans ?_
  have hb : f_read.body = [RE1, RE2, RE3, .ret (.call c_told_in [(.val, (.var 0)), (.val, (.var 1))])] := rfl
  have hm : f_read.m = 2 := rfl
  have h0 : startE 2 [(false, f.pv), (false, sg xs)] = [.fz f.pv, .fz (sg xs)] := rfl
  have e3 : evS G (evCl G F (k + 5)) RE3 [.fz f.pv, .fz (sg xs)] = none := by
    have hn := none_check_read k f hf xs p w h
    have ha : evAs G (evCl G F (k + 5)) [(.val, (.var 0)), (.val, (.var 1))] [.fz f.pv, .fz (sg xs)] = some ([.val f.pv, .val (sg xs)], [.fz f.pv, .fz (sg xs)]) := rfl
    have hc : evE G (evCl G F (k + 5)) (.call c_check_read [(.val, (.var 0)), (.val, (.var 1))]) [.fz f.pv, .fz (sg xs)] = none := by
      rw [x_call, ha, Option.bind_some, if_pos (show (slots [Bw.val f.pv, Bw.val (sg xs)]).length ≤ 1 from Nat.zero_le 1)]
      show (evCl G F (k + 5) c_check_read [(false, f.pv), (false, sg xs)]).bind _ = none
      rw [hn]
      rfl
    rw [RE3, s_expr, hc]
    rfl
  rw [fn_eq, if_pos (by rw [hm]; exact Nat.le_refl 2), hm, hb, h0, q_cons, re_1 k f hf xs, th_nx, q_cons, re_2 k f xs hl hx, th_nx, q_cons, e3]
  rfl
theorem s_try_ok {C : Cl} {body : List Sm} {j i k : Nat} {h : HEx} {ρ : Env} {r : Fl × Env} (e : evSs G C body ρ = some r) : evS G C (.tryE body j i k h) ρ = some r := by
  show (match evSs G C body ρ with
    | some r => some r
    | none => (exSs G C body ρ).bind fun q => if q.1.1 = j ∧ i < q.2.length then (hxv h q.1.2).bind fun v => (put k (.fz v) (q.2.set i .un)).map fun (ρ' : Env) => (Fl.nx, ρ'.set i .un) else none) = _
  rw [e]
theorem s_try_x {C : Cl} {body : List Sm} {j i k : Nat} {h : HEx} {ρ ρ1 ρ2 : Env} {vs : List PV} {v : PV} (e : evSs G C body ρ = none) (ex : exSs G C body ρ = some ((j, vs), ρ1)) (hi : i < ρ1.length) (hv : hxv h vs = some v) (hp : put k (.fz v) (ρ1.set i .un) = some ρ2) : evS G C (.tryE body j i k h) ρ = some (.nx, ρ2.set i .un) := by
  show (match evSs G C body ρ with
    | some r => some r
    | none => (exSs G C body ρ).bind fun q => if q.1.1 = j ∧ i < q.2.length then (hxv h q.1.2).bind fun v => (put k (.fz v) (q.2.set i .un)).map fun (ρ' : Env) => (Fl.nx, ρ'.set i .un) else none) = _
  rw [e]
  show ((exSs G C body ρ).bind _) = _
  rw [ex]
  show (if j = j ∧ i < ρ1.length then (hxv h vs).bind fun v => (put k (.fz v) (ρ1.set i .un)).map fun (ρ' : Env) => (Fl.nx, ρ'.set i .un) else none) = _
  rw [if_pos ⟨rfl, hi⟩, hv, Option.bind_some, hp]
  rfl
end EV.Law
set_option linter.all false
set_option maxRecDepth 100000
namespace EV.Law
open PySem EV
/-! ### what read and looked_at tell, or how the file is refused -/
def R.told (xs : List Int) : R → PV
  | .ok T B => .lst [.tup (T.map chV), Dv xs B]
  | .bad p w => .tup [.int (p : Int), .str w]
def TLe : Ex := .lst [(.val, (.call c_read [(.val, (.var 0)), (.val, (.var 1))])), (.val, (.call c_looked_at [(.val, (.var 0)), (.val, (.var 1))]))]
def TL1 : Sm := .asg (.name 2) (.lit .non)
def TLb : List Sm := [.asg (.name 2) TLe]
def TL2 : Sm := .tryE TLb 0 3 2 (.tup [(.fld 0), (.fld 1)])
theorem e_law_told (k : Nat) (f : Fm) (hf : f.Ok) (xs : List Int) (hl : xs.length ≤ 1000) (hx : ∀ x ∈ xs, inB f.b x = true) : evCl G F (k + 7) c_law_told [(false, f.pv), (false, sg xs)] = some (.fz ((rd f (firstS f) 0 [] [] xs).told xs), []) := by
  refine (u_law_told (k + 6) _).trans ?_
  have hm : f_law_told.m = 4 := rfl
  have hbd : f_law_told.body = [TL1, TL2, .ret (.var 2)] := rfl
  have h0 : startE 4 [(false, f.pv), (false, sg xs)] = [.fz f.pv, .fz (sg xs), .un, .un] := rfl
  have e1 : evS G (evCl G F (k + 6)) TL1 [.fz f.pv, .fz (sg xs), .un, .un] = some (.nx, [.fz f.pv, .fz (sg xs), .fz .non, .un]) := rfl
  rw [fn_eq, if_pos (by rw [hm]; show 2 ≤ 4; omega), hm, hbd, h0, q_cons, e1, th_nx, q_cons]
  cases h : rd f (firstS f) 0 [] [] xs with
  | ok T B =>
    have r1 := e_read k f hf xs (by omega) hx T B h
    have r2 := e_looked_at k f hf xs (by omega) hx T B h
    have q1 : evE G (evCl G F (k + 6)) (.call c_read [(.val, (.var 0)), (.val, (.var 1))]) [.fz f.pv, .fz (sg xs), .fz .non, .un] = some (.fz (.tup (T.map chV)), [.fz f.pv, .fz (sg xs), .fz .non, .un]) := val_call (vs := [f.pv, sg xs]) (a1 (v_fz rfl) rfl (a1 (v_fz rfl) rfl a0)) r1
    have q2 : evE G (evCl G F (k + 6)) (.call c_looked_at [(.val, (.var 0)), (.val, (.var 1))]) [.fz f.pv, .fz (sg xs), .fz .non, .un] = some (.fr (Dv xs B), [.fz f.pv, .fz (sg xs), .fz .non, .un]) := val_call (vs := [f.pv, sg xs]) (a1 (v_fz rfl) rfl (a1 (v_fz rfl) rfl a0)) r2
    have qa : evE G (evCl G F (k + 6)) TLe [.fz f.pv, .fz (sg xs), .fz .non, .un] = some (.fr (.lst [.tup (T.map chV), Dv xs B]), [.fz f.pv, .fz (sg xs), .fz .non, .un]) := by
      rw [TLe, x_lst, a1 q1 rfl (a1 q2 rfl a0)]
      rfl
    have e2 : evSs G (evCl G F (k + 6)) TLb [.fz f.pv, .fz (sg xs), .fz .non, .un] = some (.nx, [.fz f.pv, .fz (sg xs), .ow (.lst [.tup (T.map chV), Dv xs B]), .un]) := by
      rw [TLb, q_cons, s_asgN, qa]
      rfl
    rw [TL2, s_try_ok e2, th_nx]
    rfl
  | bad p w =>
    have r1 := none_read k f hf xs (by omega) hx p w h
    have ha : evAs G (evCl G F (k + 6)) [(.val, (.var 0)), (.val, (.var 1))] [.fz f.pv, .fz (sg xs), .fz .non, .un] = some (([f.pv, sg xs] : List PV).map Bw.val, [.fz f.pv, .fz (sg xs), .fz .non, .un]) := rfl
    have q1 : evE G (evCl G F (k + 6)) (.call c_read [(.val, (.var 0)), (.val, (.var 1))]) [.fz f.pv, .fz (sg xs), .fz .non, .un] = none := by
      rw [x_call, ha, Option.bind_some, if_pos (show (slots (([f.pv, sg xs] : List PV).map Bw.val)).length ≤ 1 from Nat.zero_le 1)]
      show (evCl G F (k + 6) c_read [(false, f.pv), (false, sg xs)]).bind _ = none
      rw [r1]
      rfl
    have e2 : evSs G (evCl G F (k + 6)) TLb [.fz f.pv, .fz (sg xs), .fz .non, .un] = none := by
      rw [TLb, q_cons, s_asgN, TLe, x_lst, a_val, q1]
      rfl
    have x1 : exSs G (evCl G F (k + 6)) TLb [.fz f.pv, .fz (sg xs), .fz .non, .un] = some (badX p w, [.fz f.pv, .fz (sg xs), .fz .non, .un]) := by
      rw [TLb]
      refine xs_x ?_
      have hc : exC G (evCl G F (k + 6)) (.call c_read [(.val, (.var 0)), (.val, (.var 1))]) [.fz f.pv, .fz (sg xs), .fz .non, .un] = some (badX p w, [.fz f.pv, .fz (sg xs), .fz .non, .un]) := exC_call ha (xcall_of (x_read k f hf xs (by omega) hx p w h))
      rw [xs_asg, TLe]
      show (match ex1 G (evCl G F (k + 6)) (.call c_read [(.val, (.var 0)), (.val, (.var 1))]) [.fz f.pv, .fz (sg xs), .fz .non, .un] with
        | some x => some x
        | none => _) = _
      rw [show ex1 G (evCl G F (k + 6)) (.call c_read [(.val, (.var 0)), (.val, (.var 1))]) [.fz f.pv, .fz (sg xs), .fz .non, .un] = some (badX p w, [.fz f.pv, .fz (sg xs), .fz .non, .un]) from hc]
    rw [TL2, s_try_x (vs := [.int (p : Int), .str w]) (v := .tup [.int (p : Int), .str w]) (ρ2 := [.fz f.pv, .fz (sg xs), .fz (.tup [.int (p : Int), .str w]), .un]) e2 x1 (show 3 < 4 by decide) rfl rfl, th_nx]
    rfl
theorem eqv_R (r : R) (xs : List Int) (hl : xs.length ≤ 1000) (h : ∀ T B, r = .ok T B → T.length ≤ 1000 ∧ ∀ c ∈ T, c.2.length ≤ 1000) : eqv 4 (r.told xs) := by
  cases r with
  | bad p w => exact eqv_mono (eqv_mono (eqv_mono (eqv_rf (.bad p w))))
  | ok T B =>
    obtain ⟨l1, l2⟩ := h T B rfl
    refine .inr ⟨_, .inr rfl, by show 2 ≤ 1000; decide, fun y hy => ?_⟩
    have : y = .tup (T.map chV) ∨ y = Dv xs B := by simpa using hy
    rcases this with rfl | rfl
    · exact eqv_told T l1 l2
    · exact eqv_mono (eqv_mono (eqv_D xs B hl))
end EV.Law
set_option linter.all false
set_option maxRecDepth 100000
namespace EV.Law
open PySem EV
/-! ### long bodies -/
structure L7 where
  (a b c d e g h : Slot)
def LF (v : PV) (f : Fm) (u : Str) (s : L7) : Env := [.pn v, .fz f.pv, .fz (.str u), s.a, s.b, s.c, s.d, s.e, s.g, s.h, .un]
theorem lf_grab {k q : Nat} {v : PV} {f : Fm} {u : Str} {s : L7} {e : Ex} {b : Int} (he : evE G (evCl G F (k + 1)) e (LF v f u s) = some (.fz (.int b), LF v f u s)) (hb : 0 < b) (hb2 : b < 18446744073709551616) (hv : BG (q + 1) v) :
    ∃ (d : Int) (v' : PV), evE G (evCl G F (k + 1)) (.call c_law_grab [(.ref, (.var 0)), (.val, e)]) (LF v f u s) = some (.fz (.int d), LF v' f u s) ∧ 0 ≤ d ∧ d < b ∧ BG q v' := by
  obtain ⟨d, v', g, p1, p2, hv'⟩ := e_grab k q v b hv hb hb2
  exact ⟨d, v', ref_callP (ρ1 := LF v f u s) (vs := [.int b]) ⟨v, rfl⟩ (a1 he rfl a0) rfl g, p1, p2, hv'⟩
def un7 : L7 := ⟨.un, .un, .un, .un, .un, .un, .un⟩
def lS1 : Sm := .par [8, 9] [(.idx (.var 1) (.lit (.int 0))), (.bin .add (.lit (.int 10)) (.call c_law_grab [(.ref, (.var 0)), (.val, (.lit (.int 140)))]))]
def lElt : Ex := .call c_law_grab [(.ref, (.var 0)), (.val, (.var 8))]
def lS2 : Sm := .asg (.name 3) (.comp lElt [10] (.name 10) (.range [(.val, (.var 9))]) [])
def lS3 : Sm := .asg (.name 4) (.idx (.var 1) (.lit (.int 3)))
def lBB : Ex := .bin .mul (.var 8) (.var 8)
def lS4 : Sm := .asg (.name 5) (.idx (.lst [(.val, (.var 9)), (.val, (.var 9)), (.val, (.var 4)), (.val, (.bin .add (.var 4) (.lit (.int 1)))), (.val, (.bin .add (.var 4) (.var 8))), (.val, (.call c_law_grab [(.ref, (.var 0)), (.val, lBB)]))]) (.call c_law_grab [(.ref, (.var 0)), (.val, (.lit (.int 6)))]))
def lS5 : Sm := .asg (.name 5) (.bi .min [(.ref, (.var 5)), (.ref, (.bin .sub lBB (.lit (.int 1))))])
def lS6 : Sm := .asg (.name 6) (.ite (.cmp .eq (.idx (.var 1) (.lit (.int 2))) (.lit (.str "high"))) (.lst [(.val, (.bin .fdiv (.var 5) (.var 8))), (.val, (.bin .mod (.bi .int [(.ref, (.var 5))]) (.var 8)))]) (.lst [(.val, (.bin .mod (.bi .int [(.ref, (.var 5))]) (.var 8))), (.val, (.bin .fdiv (.var 5) (.var 8)))]))
def lS7 : Sm := .asg (.name 7) (.bin .add (.bin .add (.lst [(.val, (.lit (.int 1)))]) (.var 6)) (.var 3))
def lZero : Ex := .cmp .eq (.call c_law_grab [(.ref, (.var 0)), (.val, (.lit (.int 4)))]) (.lit (.int 0))
def lSum : Ex := .bin .mod (.bi .int [(.ref, (.bin .add (.bi .sum [(.ref, (.var 3))]) (.bi .int [(.ref, lZero)])))]) (.var 8)
def lS8 : Sm := .ite (.cmp .eq (.var 2) (.lit (.str "check"))) [.app 7 lSum] []
def lRep : Ex := .rep (.lst [(.val, (.lit (.int 0)))]) (.call c_law_grab [(.ref, (.var 0)), (.val, (.lit (.int 3)))])
def lS9 : Sm := .ret (.bi .tuple [(.ref, (.bin .add (.var 7) lRep))])
theorem l_s1 (k q : Nat) (v : PV) (f : Fm) (u : Str) (hv : BG (q + 1) v) : ∃ (v' : PV) (n : Nat), evS G (evCl G F (k + 1)) lS1 (LF v f u un7) = some (.nx, LF v' f u { un7 with g := .fz (.int f.b), h := .fz (.int (n : Int)) }) ∧ BG q v' ∧ n ≤ 150 := by
  obtain ⟨d, v', g, p1, p2, hv'⟩ := lf_grab (k := k) (q := q) (v := v) (f := f) (u := u) (s := un7) (e := .lit (.int 140)) (b := 140) rfl (by decide) (by decide) hv
  obtain ⟨n, hn⟩ := Int.eq_ofNat_of_zero_le (show 0 ≤ 10 + d by omega)
  refine ⟨v', n, ?_, hv', by omega⟩
  have e1 : evE G (evCl G F (k + 1)) (.idx (.var 1) (.lit (.int 0))) (LF v f u un7) = some (.fz (.int f.b), LF v f u un7) := rfl
  have e2 : evE G (evCl G F (k + 1)) (.bin .add (.lit (.int 10)) (.call c_law_grab [(.ref, (.var 0)), (.val, (.lit (.int 140)))])) (LF v f u un7) = some (.fz (.int (n : Int)), LF v' f u un7) := by
    rw [x_bin, x_lit]
    show (bw (.call c_law_grab [(.ref, (.var 0)), (.val, (.lit (.int 140)))]) (evE G (evCl G F (k + 1)) (.call c_law_grab [(.ref, (.var 0)), (.val, (.lit (.int 140)))]) (LF v f u un7)) (LF v f u un7)).bind _ = _
    rw [g, ← hn]
    rfl
  rw [lS1, s_par, p_cons, e1, Option.bind_some, p_cons, e2, Option.bind_some, p_nil]
  rfl
theorem l_turn (k q : Nat) (v : PV) (f : Fm) (hf : f.Ok) (u : Str) (h : Slot) (z : PV) (hv : BG (q + 1) v) :
    ∃ (v' : PV) (x : Int), cT G (evCl G F (k + 1)) lElt [10] (.name 10) [] z (LF v f u { un7 with g := .fz (.int f.b), h := h }) = some (some (.int x), LF v' f u { un7 with g := .fz (.int f.b), h := h }) ∧ BG q v' ∧ inB f.b x = true := by
  have hb1 := hf.b1
  have hb2 := hf.b2
  obtain ⟨d1, v1, g1, p1, p2, hv1⟩ := e_grab k q v f.b hv (by omega) (by omega)
  exact ⟨v1, d1, by simp [cT, evTs, wipe, lElt, LF, un7, fn_eq, startE, slotOf, q_nil, q_cons, th_nx, th_rt, th_br, th_ct, th_if, s_asgN, s_asgT, s_par, p_nil, p_cons, s_expr, s_ret, s_retN, s_ite, s_setIdx, s_app, setAt, appTo, x_lit, x_glo, x_var, x_tup, x_lst, x_bin, x_neg, x_cmp, x_chain, x_ands, x_ors, x_and1, x_or1, andK_bl, orK_bl, x_and2, x_or2, x_not, x_ite, x_idx, sliceOf, x_slc, x_call, x_callK, x_bi, x_isi, x_rng1, x_rng2, a_nil, a_val, a_ref, k_nil, k_cons, o_none, o_some, val_fz, val_fr, d_slot, d_val, ds_nil, ds_cons, t_some, bw, use, peek, put, modify, truthy, isStr, avGet, avPut, slots, vals?, cmpOp, ords, isIt, isNon, within, b_add, b_sub, b_catT, b_catL, bias, biEv, tyOf, flRv, finE, mkSeq, PV.int?, PV.seq?, PV.lst?, ints?, bindP, bindPs, rangeItems, pick, eo_ii, eo_ss, eo_bb, eo_sn, eo_in, eo_ni, eo_ns, eo_nn, pq_ii, pq_ss, pq_bb, pq_in, pq_ni, pq_sn, pq_ns, pq_nn, g1], hv1, inB_of p1 p2⟩
theorem l_loop (k : Nat) (f : Fm) (hf : f.Ok) (u : Str) (h : Slot) : ∀ (zs : List PV) (q : Nat) (v : PV) (acc : List PV), BG (q + zs.length) v → acc.length + zs.length ≤ 1000 →
    ∃ (v' : PV) (xs : List Int), compLoop (cT G (evCl G F (k + 1)) lElt [10] (.name 10) []) zs (LF v f u { un7 with g := .fz (.int f.b), h := h }) acc = some (acc ++ xs.map PV.int, LF v' f u { un7 with g := .fz (.int f.b), h := h }) ∧ BG q v' ∧ xs.length = zs.length ∧ ∀ x ∈ xs, inB f.b x = true
  | [], q, v, acc, hv, _ => ⟨v, [], by simp [compLoop], hv, rfl, fun o h => by simp at h⟩
  | z :: zs, q, v, acc, hv, hl => by
    obtain ⟨v1, x, e1, h1, h2⟩ := l_turn k (q + zs.length) v f hf u h z (hv.less (by simp; omega))
    obtain ⟨v2, xs, e2, h3, h4, h5⟩ := l_loop k f hf u h zs q v1 (acc ++ [.int x]) h1 (by simp at hl ⊢; omega)
    refine ⟨v2, x :: xs, ?_, h3, by simp [h4], fun y hy => ?_⟩
    · have hz : acc.length < LIM := by simp at hl; unfold LIM; omega
      rw [compLoop, e1, Option.bind_some]
      show (if acc.length < LIM then compLoop _ _ _ (acc ++ [.int x]) else none) = _
      rw [if_pos hz, e2]
      simp
    · rcases List.mem_cons.mp hy with rfl | hy
      · exact h2
      · exact h5 y hy
theorem l_s2 (k q : Nat) (v : PV) (f : Fm) (hf : f.Ok) (u : Str) (n : Nat) (hn : n ≤ 150) (hv : BG (q + n) v) : ∃ (v' : PV) (xs : List Int), evS G (evCl G F (k + 1)) lS2 (LF v f u { un7 with g := .fz (.int f.b), h := .fz (.int (n : Int)) }) = some (.nx, LF v' f u { un7 with a := .ow (.lst (xs.map PV.int)), g := .fz (.int f.b), h := .fz (.int (n : Int)) }) ∧ BG q v' ∧ xs.length = n ∧ ∀ x ∈ xs, inB f.b x = true := by
  obtain ⟨v', xs, e, h1, h2, h3⟩ := l_loop k f hf u (.fz (.int (n : Int))) ((List.range n).map fun i => PV.int (i : Nat)) q v [] (hv.less (by simp)) (by simp; omega)
  refine ⟨v', xs, ?_, h1, by rw [h2]; simp, h3⟩
  have hr : evI G (evCl G F (k + 1)) (.range [(.val, (.var 9))]) (LF v f u { un7 with g := .fz (.int f.b), h := .fz (.int (n : Int)) }) = some ((List.range n).map fun i => PV.int (i : Nat), LF v f u { un7 with g := .fz (.int f.b), h := .fz (.int (n : Int)) }) := range_ev (v_fz rfl) (by omega)
  have hc : evE G (evCl G F (k + 1)) (.comp lElt [10] (.name 10) (.range [(.val, (.var 9))]) []) (LF v f u { un7 with g := .fz (.int f.b), h := .fz (.int (n : Int)) }) = some (.fr (.lst (xs.map PV.int)), LF v' f u { un7 with g := .fz (.int f.b), h := .fz (.int (n : Int)) }) :=
    x_comp (items := (List.range n).map fun i => PV.int (i : Nat)) hr rfl e rfl
  rw [lS2, s_asgN, hc]
  rfl
theorem l_bb (C : Cl) (v : PV) (f : Fm) (hf : f.Ok) (u : Str) (s : L7) (h : s.g = .fz (.int f.b)) : evE G C lBB (LF v f u s) = some (.fz (.int (f.b * f.b)), LF v f u s) := by
  have hm := b_mulR f.b f.b (by have := hf.b1; omega) (by have := hf.b2; omega)
  have g8 : (LF v f u s)[8]? = some (.fz (.int f.b)) := by rw [← h]; rfl
  rw [lBB, x_bin, bw_v (pk_fz g8), Option.bind_some, bw_v (pk_fz g8), Option.bind_some, d_slot, pk_fz g8, Option.bind_some, Option.bind_some, hm]
  rfl
theorem l_s4 (k q : Nat) (v : PV) (f : Fm) (hf : f.Ok) (u : Str) (a : Slot) (n : Nat) (hn : n ≤ 150) (hv : BG (q + 2) v) : ∃ (v' : PV) (x : Int), evS G (evCl G F (k + 1)) lS4 (LF v f u { un7 with a := a, b := .fz (.int f.m), g := .fz (.int f.b), h := .fz (.int (n : Int)) }) = some (.nx, LF v' f u { un7 with a := a, b := .fz (.int f.m), c := .fz (.int x), g := .fz (.int f.b), h := .fz (.int (n : Int)) }) ∧ BG q v' ∧ 0 ≤ x := by
  have hb1 := hf.b1
  have hb2 := hf.b2
  have hm1 := hf.m1
  have hbb : 0 < f.b * f.b := Int.mul_pos (by omega) (by omega)
  have hbb2 : f.b * f.b ≤ 256 * 256 := Int.mul_le_mul hb2 hb2 (by omega) (by omega)
  obtain ⟨d1, v1, g1, p1, p2, hv1⟩ := lf_grab (k := k) (q := q + 1) (v := v) (f := f) (u := u) (s := { un7 with a := a, b := .fz (.int f.m), g := .fz (.int f.b), h := .fz (.int (n : Int)) }) (e := lBB) (b := f.b * f.b) (l_bb _ v f hf u _ rfl) hbb (by omega) hv
  obtain ⟨d2, v2, g2, p3, p4, hv2⟩ := lf_grab (k := k) (q := q) (v := v1) (f := f) (u := u) (s := { un7 with a := a, b := .fz (.int f.m), g := .fz (.int f.b), h := .fz (.int (n : Int)) }) (e := .lit (.int 6)) (b := 6) rfl (by decide) (by decide) hv1
  have ha : evAs G (evCl G F (k + 1)) [(.val, (.var 9)), (.val, (.var 9)), (.val, (.var 4)), (.val, (.bin .add (.var 4) (.lit (.int 1)))), (.val, (.bin .add (.var 4) (.var 8))), (.val, (.call c_law_grab [(.ref, (.var 0)), (.val, lBB)]))] (LF v f u { un7 with a := a, b := .fz (.int f.m), g := .fz (.int f.b), h := .fz (.int (n : Int)) }) =
      some (([(n : Int), (n : Int), f.m, f.m + 1, f.m + f.b, d1] : List Int).map fun i => Bw.val (.int i), LF v1 f u { un7 with a := a, b := .fz (.int f.m), g := .fz (.int f.b), h := .fz (.int (n : Int)) }) :=
    a1 (v_fz rfl) rfl (a1 (v_fz rfl) rfl (a1 (v_fz rfl) rfl (a1 (r := .fz (.int (f.m + 1))) rfl rfl (a1 (r := .fz (.int (f.m + f.b))) rfl rfl (a1 g1 rfl rfl)))))
  obtain ⟨x, hx, ex⟩ := idx_lst ha g2 p3 p4 rfl (by decide)
  refine ⟨v2, x, ?_, hv2, ?_⟩
  · rw [lS4, s_asgN, ex]
    rfl
  · have : x = (n : Int) ∨ x = f.m ∨ x = f.m + 1 ∨ x = f.m + f.b ∨ x = d1 := by
      have : x = (n : Int) ∨ x = (n : Int) ∨ x = f.m ∨ x = f.m + 1 ∨ x = f.m + f.b ∨ x = d1 := by simpa using hx
      omega
    omega
theorem l_s5 (C : Cl) (v : PV) (f : Fm) (hf : f.Ok) (u : Str) (a b h : Slot) (x : Int) (h0 : 0 ≤ x) : ∃ y : Int, evS G C lS5 (LF v f u { un7 with a := a, b := b, c := .fz (.int x), g := .fz (.int f.b), h := h }) = some (.nx, LF v f u { un7 with a := a, b := b, c := .fz (.int y), g := .fz (.int f.b), h := h }) ∧ 0 ≤ y ∧ y < f.b * f.b := by
  have hb1 := hf.b1
  have hbb : 0 < f.b * f.b := Int.mul_pos (by omega) (by omega)
  refine ⟨if f.b * f.b - 1 < x then f.b * f.b - 1 else x, ?_, by split <;> omega, by split <;> omega⟩
  have e1 := l_bb C v f hf u { un7 with a := a, b := b, c := .fz (.int x), g := .fz (.int f.b), h := h } rfl
  have e2 : evE G C (.bin .sub lBB (.lit (.int 1))) (LF v f u { un7 with a := a, b := b, c := .fz (.int x), g := .fz (.int f.b), h := h }) = some (.fz (.int (f.b * f.b - 1)), LF v f u { un7 with a := a, b := b, c := .fz (.int x), g := .fz (.int f.b), h := h }) := by
    rw [x_bin, e1]
    rfl
  have e3 : evE G C (.bi .min [(.ref, (.var 5)), (.ref, (.bin .sub lBB (.lit (.int 1))))]) (LF v f u { un7 with a := a, b := b, c := .fz (.int x), g := .fz (.int f.b), h := h }) = some (.fz (.int (if f.b * f.b - 1 < x then f.b * f.b - 1 else x)), LF v f u { un7 with a := a, b := b, c := .fz (.int x), g := .fz (.int f.b), h := h }) := by
    have g5 : (LF v f u { un7 with a := a, b := b, c := .fz (.int x), g := .fz (.int f.b), h := h })[5]? = some (.fz (.int x)) := rfl
    have ha : evAs G C [(.ref, (.var 5)), (.ref, (.bin .sub lBB (.lit (.int 1))))] (LF v f u { un7 with a := a, b := b, c := .fz (.int x), g := .fz (.int f.b), h := h }) = some ([.slot 5, .val (.int (f.b * f.b - 1))], LF v f u { un7 with a := a, b := b, c := .fz (.int x), g := .fz (.int f.b), h := h }) := by
      rw [a_ref, bw_v (pk_fz g5), Option.bind_some, a_ref, e2]
      rfl
    rw [x_bi, ha]
    rfl
  rw [lS5, s_asgN, e3]
  rfl
theorem l_s6 (C : Cl) (v : PV) (f : Fm) (hf : f.Ok) (u : Str) (a b h : Slot) (n : Int) (h0 : 0 ≤ n) (h1 : n < f.b * f.b) :
    ∃ x y : Int, evS G C lS6 (LF v f u { un7 with a := a, b := b, c := .fz (.int n), g := .fz (.int f.b), h := h }) = some (.nx, LF v f u { un7 with a := a, b := b, c := .fz (.int n), d := .ow (.lst [.int x, .int y]), g := .fz (.int f.b), h := h }) ∧ inB f.b x = true ∧ inB f.b y = true := by
  have hb1 := hf.b1
  have hb2 := hf.b2
  have p0 : 0 < f.b := by omega
  have p1 : f.b < 18446744073709551616 := by omega
  have i2 : ixN 6 2 = some 2 := rfl
  have d1 : inB f.b (n / f.b) = true := inB_of (Int.ediv_nonneg h0 (by omega)) (Int.ediv_lt_of_lt_mul p0 h1)
  have d2 : inB f.b (n % f.b) = true := inB_of (Int.emod_nonneg _ (by omega)) (Int.emod_lt_of_pos _ p0)
  have hd := b_fdiv n f.b p0 p1
  have hm := b_mod n f.b p0
  have hl : 2 ≤ LIM := by decide
  by_cases hw : f.w = .high
  · refine ⟨n / f.b, n % f.b, ?_, d1, d2⟩
    simp [lS6, LF, un7, fn_eq, startE, slotOf, q_nil, q_cons, th_nx, th_rt, th_br, th_ct, th_if, s_asgN, s_asgT, s_par, p_nil, p_cons, s_expr, s_ret, s_retN, s_ite, s_setIdx, s_app, setAt, appTo, x_lit, x_glo, x_var, x_tup, x_lst, x_bin, x_neg, x_cmp, x_chain, x_ands, x_ors, x_and1, x_or1, andK_bl, orK_bl, x_and2, x_or2, x_not, x_ite, x_idx, sliceOf, x_slc, x_call, x_callK, x_bi, x_isi, x_rng1, x_rng2, a_nil, a_val, a_ref, k_nil, k_cons, o_none, o_some, val_fz, val_fr, d_slot, d_val, ds_nil, ds_cons, t_some, bw, use, peek, put, modify, truthy, isStr, avGet, avPut, slots, vals?, cmpOp, ords, isIt, isNon, within, b_add, b_sub, b_catT, b_catL, bias, biEv, tyOf, flRv, finE, mkSeq, PV.int?, PV.seq?, PV.lst?, ints?, bindP, bindPs, rangeItems, pick, eo_ii, eo_ss, eo_bb, eo_sn, eo_in, eo_ni, eo_ns, eo_nn, pq_ii, pq_ss, pq_bb, pq_in, pq_ni, pq_sn, pq_ns, pq_nn, Fm.pv, i2, w_high, hw, hd, hm, hl]
  · refine ⟨n % f.b, n / f.b, ?_, d2, d1⟩
    simp [lS6, LF, un7, fn_eq, startE, slotOf, q_nil, q_cons, th_nx, th_rt, th_br, th_ct, th_if, s_asgN, s_asgT, s_par, p_nil, p_cons, s_expr, s_ret, s_retN, s_ite, s_setIdx, s_app, setAt, appTo, x_lit, x_glo, x_var, x_tup, x_lst, x_bin, x_neg, x_cmp, x_chain, x_ands, x_ors, x_and1, x_or1, andK_bl, orK_bl, x_and2, x_or2, x_not, x_ite, x_idx, sliceOf, x_slc, x_call, x_callK, x_bi, x_isi, x_rng1, x_rng2, a_nil, a_val, a_ref, k_nil, k_cons, o_none, o_some, val_fz, val_fr, d_slot, d_val, ds_nil, ds_cons, t_some, bw, use, peek, put, modify, truthy, isStr, avGet, avPut, slots, vals?, cmpOp, ords, isIt, isNon, within, b_add, b_sub, b_catT, b_catL, bias, biEv, tyOf, flRv, finE, mkSeq, PV.int?, PV.seq?, PV.lst?, ints?, bindP, bindPs, rangeItems, pick, eo_ii, eo_ss, eo_bb, eo_sn, eo_in, eo_ni, eo_ns, eo_nn, pq_ii, pq_ss, pq_bb, pq_in, pq_ni, pq_sn, pq_ns, pq_nn, Fm.pv, i2, w_high, hw, hd, hm, hl]
theorem l_s7 (C : Cl) (v : PV) (f : Fm) (u : Str) (b c h g : Slot) (x y : Int) (zs : List Int) (hl : zs.length ≤ 1000) : evS G C lS7 (LF v f u { un7 with a := .ow (.lst (zs.map PV.int)), b := b, c := c, d := .ow (.lst [.int x, .int y]), g := g, h := h }) =
    some (.nx, LF v f u { un7 with a := .ow (.lst (zs.map PV.int)), b := b, c := c, d := .ow (.lst [.int x, .int y]), e := .ow (.lst (([1, x, y] ++ zs).map PV.int)), g := g, h := h }) := by
  have c1 : 1 + 2 + zs.length ≤ LIM := by unfold LIM; omega
  have e1 : evE G C (.bin .add (.lst [(.val, (.lit (.int 1)))]) (.var 6)) (LF v f u { un7 with a := .ow (.lst (zs.map PV.int)), b := b, c := c, d := .ow (.lst [.int x, .int y]), g := g, h := h }) = some (.fr (.lst [.int 1, .int x, .int y]), LF v f u { un7 with a := .ow (.lst (zs.map PV.int)), b := b, c := c, d := .ow (.lst [.int x, .int y]), g := g, h := h }) := rfl
  have g3 : (LF v f u { un7 with a := .ow (.lst (zs.map PV.int)), b := b, c := c, d := .ow (.lst [.int x, .int y]), g := g, h := h })[3]? = some (.ow (.lst (zs.map PV.int))) := rfl
  have e2 : evE G C (.bin .add (.bin .add (.lst [(.val, (.lit (.int 1)))]) (.var 6)) (.var 3)) (LF v f u { un7 with a := .ow (.lst (zs.map PV.int)), b := b, c := c, d := .ow (.lst [.int x, .int y]), g := g, h := h }) = some (.fr (.lst (([1, x, y] ++ zs).map PV.int)), LF v f u { un7 with a := .ow (.lst (zs.map PV.int)), b := b, c := c, d := .ow (.lst [.int x, .int y]), g := g, h := h }) := by
    generalize hρ : LF v f u { un7 with a := .ow (.lst (zs.map PV.int)), b := b, c := c, d := .ow (.lst [.int x, .int y]), g := g, h := h } = ρ at e1 g3 ⊢
    rw [x_bin, e1]
    have hb : bw (.bin .add (.lst [(.val, (.lit (.int 1)))]) (.var 6)) (some (RV.fr (.lst [.int 1, .int x, .int y]), ρ)) ρ = some (.val (.lst [.int 1, .int x, .int y]), ρ) := rfl
    rw [hb, Option.bind_some, bw_v (pk_ow g3), Option.bind_some, d_val, Option.bind_some, d_slot, pk_ow g3, Option.bind_some, b_catL, if_pos (by rw [List.length_map]; show 3 + zs.length ≤ LIM; unfold LIM; omega)]
    rfl
  rw [lS7, s_asgN, e2]
  rfl
theorem l_sum (k q : Nat) (v : PV) (f : Fm) (hf : f.Ok) (u : Str) (b c d e h : Slot) (zs : List Int) (hv : BG (q + 1) v) : ∃ (v' : PV) (x : Int), evE G (evCl G F (k + 1)) lSum (LF v f u { un7 with a := .ow (.lst (zs.map PV.int)), b := b, c := c, d := d, e := e, g := .fz (.int f.b), h := h }) =
    some (.fz (.int x), LF v' f u { un7 with a := .ow (.lst (zs.map PV.int)), b := b, c := c, d := d, e := e, g := .fz (.int f.b), h := h }) ∧ BG q v' ∧ inB f.b x = true := by
  have hb1 := hf.b1
  obtain ⟨d4, v1, g1, p1, p2, hv1⟩ := lf_grab (k := k) (q := q) (v := v) (f := f) (u := u) (s := { un7 with a := .ow (.lst (zs.map PV.int)), b := b, c := c, d := d, e := e, g := .fz (.int f.b), h := h }) (e := .lit (.int 4)) (b := 4) rfl (by decide) (by decide) hv
  generalize hs : ({ un7 with a := .ow (.lst (zs.map PV.int)), b := b, c := c, d := d, e := e, g := .fz (.int f.b), h := h } : L7) = s at g1 ⊢
  have g3 : ∀ w, (LF w f u s)[3]? = some (.ow (.lst (zs.map PV.int))) := fun w => by rw [← hs]; rfl
  have g8 : ∀ w, (LF w f u s)[8]? = some (.fz (.int f.b)) := fun w => by rw [← hs]; rfl
  refine ⟨v1, (zs.sum + (if (d4 == 0) = true then 1 else 0)) % f.b, ?_, hv1, inB_of (Int.emod_nonneg _ (by omega)) (Int.emod_lt_of_pos _ (by omega))⟩
  have z1 : evE G (evCl G F (k + 1)) lZero (LF v f u s) = some (.fz (.bl (d4 == 0)), LF v1 f u s) := by
    rw [lZero, x_cmp, g1]
    rfl
  have z2 : evE G (evCl G F (k + 1)) (.bi .int [(.ref, lZero)]) (LF v f u s) = some (.fz (.int (if (d4 == 0) = true then 1 else 0)), LF v1 f u s) := by
    have ha : evAs G (evCl G F (k + 1)) [(.ref, lZero)] (LF v f u s) = some ([.val (.bl (d4 == 0))], LF v1 f u s) := by
      rw [a_ref, z1]
      rfl
    rw [x_bi, ha]
    rfl
  have z3 : evE G (evCl G F (k + 1)) (.bi .sum [(.ref, (.var 3))]) (LF v f u s) = some (.fz (.int zs.sum), LF v f u s) := by
    rw [x_bi, a_ref, bw_v (pk_ow (g3 v)), Option.bind_some, a_nil]
    show (derefs [.slot 3] (LF v f u s)).bind _ = _
    rw [ds_cons, d_slot, pk_ow (g3 v)]
    show ((ints? (zs.map PV.int)).map fun is => RV.fz (.int is.sum)).map _ = _
    rw [ints_map]
    rfl
  have z4 : evE G (evCl G F (k + 1)) (.bin .add (.bi .sum [(.ref, (.var 3))]) (.bi .int [(.ref, lZero)])) (LF v f u s) = some (.fz (.int (zs.sum + (if (d4 == 0) = true then 1 else 0))), LF v1 f u s) := by
    rw [x_bin, z3]
    show (bw (.bi .int [(.ref, lZero)]) (evE G (evCl G F (k + 1)) (.bi .int [(.ref, lZero)]) (LF v f u s)) (LF v f u s)).bind _ = _
    rw [z2]
    rfl
  have z5 : evE G (evCl G F (k + 1)) (.bi .int [(.ref, (.bin .add (.bi .sum [(.ref, (.var 3))]) (.bi .int [(.ref, lZero)])))]) (LF v f u s) = some (.fz (.int (zs.sum + (if (d4 == 0) = true then 1 else 0))), LF v1 f u s) := by
    have ha : evAs G (evCl G F (k + 1)) [(.ref, (.bin .add (.bi .sum [(.ref, (.var 3))]) (.bi .int [(.ref, lZero)])))] (LF v f u s) = some ([.val (.int (zs.sum + (if (d4 == 0) = true then 1 else 0)))], LF v1 f u s) := by
      rw [a_ref, z4]
      rfl
    rw [x_bi, ha]
    rfl
  rw [lSum, x_bin, z5]
  show (bw (.var 8) (evE G (evCl G F (k + 1)) (.var 8) (LF v1 f u s)) (LF v1 f u s)).bind _ = _
  rw [bw_v (pk_fz (g8 v1)), Option.bind_some]
  show (deref (.slot 8) (LF v1 f u s)).bind _ = _
  rw [d_slot, pk_fz (g8 v1), Option.bind_some]
  show ((binOp .mod (.int (zs.sum + (if (d4 == 0) = true then 1 else 0))) (.int f.b)).map _) = _
  rw [b_mod _ f.b (by omega)]
  rfl
theorem zeros (n : Nat) : (List.replicate n [PV.int 0]).flatten = (List.replicate n (0 : Int)).map PV.int := by
  induction n with
  | zero => rfl
  | succ n ih =>
    rw [List.replicate_succ, List.flatten_cons, ih, List.replicate_succ]
    rfl
theorem l_s9 (k q : Nat) (v : PV) (f : Fm) (u : Str) (s : L7) (ys : List Int) (he : s.e = .ow (.lst (ys.map PV.int))) (hl : ys.length ≤ 1000) (hv : BG (q + 1) v) : ∃ (v' : PV) (n : Nat), evS G (evCl G F (k + 1)) lS9 (LF v f u s) = some (.rt (.fz (sg (ys ++ List.replicate n 0))), LF v' f u s) ∧ BG q v' ∧ n ≤ 3 := by
  obtain ⟨d, v1, g1, p1, p2, hv1⟩ := lf_grab (k := k) (q := q) (v := v) (f := f) (u := u) (s := s) (e := .lit (.int 3)) (b := 3) rfl (by decide) (by decide) hv
  have g7 : (LF v1 f u s)[7]? = some (.ow (.lst (ys.map PV.int))) := by rw [← he]; rfl
  have g7' : (LF v f u s)[7]? = some (.ow (.lst (ys.map PV.int))) := by rw [← he]; rfl
  refine ⟨v1, d.toNat, ?_, hv1, by omega⟩
  have r1 : evE G (evCl G F (k + 1)) lRep (LF v f u s) = some (.fr (.lst ((List.replicate d.toNat (0 : Int)).map PV.int)), LF v1 f u s) := by
    have hl : evE G (evCl G F (k + 1)) (.lst [(.val, (.lit (.int 0)))]) (LF v f u s) = some (.fr (.lst [.int 0]), LF v f u s) := rfl
    rw [lRep, x_rep, hl]
    show ((evE G (evCl G F (k + 1)) (.call c_law_grab [(.ref, (.var 0)), (.val, (.lit (.int 3)))]) (LF v f u s)).bind _) = _
    rw [g1]
    show (if 0 ≤ d ∧ d ≤ 1000000 ∧ [PV.int 0].length * d.toNat ≤ LIM then some (RV.fr (.lst (List.replicate d.toNat [PV.int 0]).flatten), LF v1 f u s) else none) = _
    rw [if_pos ⟨p1, by omega, by show 1 * d.toNat ≤ LIM; unfold LIM; omega⟩, zeros]
  have r2 : evE G (evCl G F (k + 1)) (.bin .add (.var 7) lRep) (LF v f u s) = some (.fr (.lst ((ys ++ List.replicate d.toNat 0).map PV.int)), LF v1 f u s) := by
    rw [x_bin, bw_v (pk_ow g7'), Option.bind_some]
    show (bw lRep (evE G (evCl G F (k + 1)) lRep (LF v f u s)) (LF v f u s)).bind _ = _
    rw [r1]
    show (deref (.slot 7) (LF v1 f u s)).bind _ = _
    rw [d_slot, pk_ow g7, Option.bind_some]
    show ((binOp .add (.lst (ys.map PV.int)) (.lst ((List.replicate d.toNat (0 : Int)).map PV.int))).map _) = _
    rw [b_catL, if_pos (by rw [List.length_map, List.length_map, List.length_replicate]; unfold LIM; omega), ← List.map_append]
    rfl
  have ha : evAs G (evCl G F (k + 1)) [(.ref, (.bin .add (.var 7) lRep))] (LF v f u s) = some ([.val (.lst ((ys ++ List.replicate d.toNat 0).map PV.int))], LF v1 f u s) := by
    rw [a_ref, r2]
    rfl
  rw [lS9, s_ret, x_bi, ha]
  rfl
theorem e_long_file (k q : Nat) (v : PV) (f : Fm) (hf : f.Ok) (u : Str) (hv : BG (q + 200) v) : ∃ (v' : PV) (xs : List Int), evCl G F (k + 2) c_law_long_file [(true, v), (false, f.pv), (false, .str u)] = some (.fz (sg xs), [v']) ∧ BG q v' ∧ (∀ x ∈ xs, inB f.b x = true) ∧ xs.length ≤ 200 := by
  have hb1 := hf.b1
  have hm : f_law_long_file.m = 11 := rfl
  have hbd : f_law_long_file.body = [lS1, lS2, lS3, lS4, lS5, lS6, lS7, lS8, lS9] := rfl
  have h0 : startE 11 [(true, v), (false, f.pv), (false, .str u)] = LF v f u un7 := rfl
  obtain ⟨v1, n, e1, b1, hn⟩ := l_s1 k (q + 199) v f u hv
  obtain ⟨v2, zs, e2, b2, hz, iz⟩ := l_s2 k (q + 40) v1 f hf u n hn (b1.less (by omega))
  have e3 : evS G (evCl G F (k + 1)) lS3 (LF v2 f u { un7 with a := .ow (.lst (zs.map PV.int)), g := .fz (.int f.b), h := .fz (.int (n : Int)) }) = some (.nx, LF v2 f u { un7 with a := .ow (.lst (zs.map PV.int)), b := .fz (.int f.m), g := .fz (.int f.b), h := .fz (.int (n : Int)) }) := rfl
  obtain ⟨v4, x4, e4, b4, h4⟩ := l_s4 k (q + 30) v2 f hf u (.ow (.lst (zs.map PV.int))) n hn (b2.less (by omega))
  obtain ⟨x5, e5, h5, h5'⟩ := l_s5 (evCl G F (k + 1)) v4 f hf u (.ow (.lst (zs.map PV.int))) (.fz (.int f.m)) (.fz (.int (n : Int))) x4 h4
  obtain ⟨x, y, e6, ix, iy⟩ := l_s6 (evCl G F (k + 1)) v4 f hf u (.ow (.lst (zs.map PV.int))) (.fz (.int f.m)) (.fz (.int (n : Int))) x5 h5 h5'
  have e7 := l_s7 (evCl G F (k + 1)) v4 f u (.fz (.int f.m)) (.fz (.int x5)) (.fz (.int (n : Int))) (.fz (.int f.b)) x y zs (by omega)
  have hin : ∀ z ∈ [1, x, y] ++ zs, inB f.b z = true := fun z hz' => by
    have : z = 1 ∨ z = x ∨ z = y ∨ z ∈ zs := by simpa using hz'
    rcases this with rfl | rfl | rfl | h
    · exact inB_of (by omega) (by omega)
    · exact ix
    · exact iy
    · exact iz z h
  obtain ⟨v8, ys, e8, b8, iy8, l8⟩ : ∃ (v8 : PV) (ys : List Int), evS G (evCl G F (k + 1)) lS8 (LF v4 f u { un7 with a := .ow (.lst (zs.map PV.int)), b := .fz (.int f.m), c := .fz (.int x5), d := .ow (.lst [.int x, .int y]), e := .ow (.lst (([1, x, y] ++ zs).map PV.int)), g := .fz (.int f.b), h := .fz (.int (n : Int)) }) =
      some (.nx, LF v8 f u { un7 with a := .ow (.lst (zs.map PV.int)), b := .fz (.int f.m), c := .fz (.int x5), d := .ow (.lst [.int x, .int y]), e := .ow (.lst (ys.map PV.int)), g := .fz (.int f.b), h := .fz (.int (n : Int)) }) ∧ BG (q + 1) v8 ∧ (∀ z ∈ ys, inB f.b z = true) ∧ ys.length ≤ 160 := by
    have hc : evE G (evCl G F (k + 1)) (.cmp .eq (.var 2) (.lit (.str "check"))) (LF v4 f u { un7 with a := .ow (.lst (zs.map PV.int)), b := .fz (.int f.m), c := .fz (.int x5), d := .ow (.lst [.int x, .int y]), e := .ow (.lst (([1, x, y] ++ zs).map PV.int)), g := .fz (.int f.b), h := .fz (.int (n : Int)) }) =
        some (.fz (.bl (u == "check")), LF v4 f u { un7 with a := .ow (.lst (zs.map PV.int)), b := .fz (.int f.m), c := .fz (.int x5), d := .ow (.lst [.int x, .int y]), e := .ow (.lst (([1, x, y] ++ zs).map PV.int)), g := .fz (.int f.b), h := .fz (.int (n : Int)) }) := rfl
    by_cases hu : (u == ("check" : Str)) = true
    · obtain ⟨v8, s, es, b8, is⟩ := l_sum k (q + 1) v4 f hf u (.fz (.int f.m)) (.fz (.int x5)) (.ow (.lst [.int x, .int y])) (.ow (.lst (([1, x, y] ++ zs).map PV.int))) (.fz (.int (n : Int))) zs (b4.less (by omega))
      refine ⟨v8, [1, x, y] ++ zs ++ [s], ?_, b8, fun z hz' => ?_, by simp; omega⟩
      · have happ : evS G (evCl G F (k + 1)) (.app 7 lSum) (LF v4 f u { un7 with a := .ow (.lst (zs.map PV.int)), b := .fz (.int f.m), c := .fz (.int x5), d := .ow (.lst [.int x, .int y]), e := .ow (.lst (([1, x, y] ++ zs).map PV.int)), g := .fz (.int f.b), h := .fz (.int (n : Int)) }) =
            some (.nx, LF v8 f u { un7 with a := .ow (.lst (zs.map PV.int)), b := .fz (.int f.m), c := .fz (.int x5), d := .ow (.lst [.int x, .int y]), e := .ow (.lst (([1, x, y] ++ zs ++ [s]).map PV.int)), g := .fz (.int f.b), h := .fz (.int (n : Int)) }) := by
          have ea : appTo (.int s) (.lst (([1, x, y] ++ zs).map PV.int)) = some (.lst (([1, x, y] ++ zs ++ [s]).map PV.int)) := by
            show (if (([1, x, y] ++ zs).map PV.int).length < LIM then some (PV.lst (([1, x, y] ++ zs).map PV.int ++ [.int s])) else none) = _
            rw [if_pos (by simp; unfold LIM; omega), List.map_append (l₂ := [s])]
            rfl
          have g7 : (LF v4 f u { un7 with a := .ow (.lst (zs.map PV.int)), b := .fz (.int f.m), c := .fz (.int x5), d := .ow (.lst [.int x, .int y]), e := .ow (.lst (([1, x, y] ++ zs).map PV.int)), g := .fz (.int f.b), h := .fz (.int (n : Int)) })[7]? = some (.ow (.lst (([1, x, y] ++ zs).map PV.int))) := rfl
          rw [s_app, pk_ow g7, Option.bind_some]
          show ((some (([1, x, y] ++ zs).map PV.int)).bind fun _ => _) = _
          rw [Option.bind_some, es, Option.bind_some]
          have hm7 : modify 7 (appTo (.int s)) (LF v8 f u { un7 with a := .ow (.lst (zs.map PV.int)), b := .fz (.int f.m), c := .fz (.int x5), d := .ow (.lst [.int x, .int y]), e := .ow (.lst (([1, x, y] ++ zs).map PV.int)), g := .fz (.int f.b), h := .fz (.int (n : Int)) }) =
              some (LF v8 f u { un7 with a := .ow (.lst (zs.map PV.int)), b := .fz (.int f.m), c := .fz (.int x5), d := .ow (.lst [.int x, .int y]), e := .ow (.lst (([1, x, y] ++ zs ++ [s]).map PV.int)), g := .fz (.int f.b), h := .fz (.int (n : Int)) }) := by
            show ((appTo (.int s) (.lst (([1, x, y] ++ zs).map PV.int))).map fun u' => (LF v8 f u { un7 with a := .ow (.lst (zs.map PV.int)), b := .fz (.int f.m), c := .fz (.int x5), d := .ow (.lst [.int x, .int y]), e := .ow (.lst (([1, x, y] ++ zs).map PV.int)), g := .fz (.int f.b), h := .fz (.int (n : Int)) }).set 7 (.ow u')) = _
            rw [ea]
            rfl
          show ((modify 7 (appTo (.int s)) (LF v8 f u { un7 with a := .ow (.lst (zs.map PV.int)), b := .fz (.int f.m), c := .fz (.int x5), d := .ow (.lst [.int x, .int y]), e := .ow (.lst (([1, x, y] ++ zs).map PV.int)), g := .fz (.int f.b), h := .fz (.int (n : Int)) })).map fun (ρ' : Env) => (Fl.nx, ρ')) = _
          rw [hm7]
          rfl
        rw [lS8, ite_ev hc, if_pos hu, q_cons, happ, th_nx]
        rfl
      · rcases List.mem_append.mp hz' with h | h
        · exact hin z h
        · have : z = s := by simpa using h
          rw [this]
          exact is
    · refine ⟨v4, [1, x, y] ++ zs, ?_, b4.less (by omega), hin, by simp; omega⟩
      rw [lS8, ite_ev hc, if_neg hu]
      rfl
  obtain ⟨v9, j, e9, b9, hj⟩ := l_s9 k q v8 f u { un7 with a := .ow (.lst (zs.map PV.int)), b := .fz (.int f.m), c := .fz (.int x5), d := .ow (.lst [.int x, .int y]), e := .ow (.lst (ys.map PV.int)), g := .fz (.int f.b), h := .fz (.int (n : Int)) } ys rfl (by omega) b8
  refine ⟨v9, ys ++ List.replicate j 0, ?_, b9, fun z hz' => ?_, by rw [List.length_append, List.length_replicate]; omega⟩
  · refine (u_law_long_file (k + 1) _).trans ?_
    rw [fn_eq, if_pos (by rw [hm]; show 3 ≤ 11; omega), hm, hbd, h0, q_cons, e1, th_nx, q_cons, e2, th_nx, q_cons, e3, th_nx, q_cons, e4, th_nx, q_cons, e5, th_nx, q_cons, e6, th_nx, q_cons, e7, th_nx, q_cons, e8, th_nx, q_cons, e9, th_rt]
    rfl
  · rcases List.mem_append.mp hz' with h | h
    · exact iy8 z h
    · have : z = 0 := (List.mem_replicate.mp h).2
      rw [this]
      exact inB_of (by omega) (by omega)
end EV.Law
set_option linter.all false
set_option maxRecDepth 100000
namespace EV.Law
open PySem EV
/-! ### law k13 -/
/-- a loop over given data, the bag drawn ahead -/
theorem law_atE {C : Cl} {k m ib it Q : Nat} {us : List Nat} {ns : List Int} {tBody : List Sm} {itx : It} {items : List PV} {ρ : Env} (hk : C = evCl G F (k + 1)) (hib : 1 < ib) (hibm : ib < m) (hit0 : 0 < it) (hitb : it ≠ ib) (hitm : it < m) (hus : ∀ j ∈ us, j ≠ 1 ∧ j ≠ ib ∧ j ≠ it) (hn : items.length ≤ 1000) (hb : Q * items.length ≤ 1000000000)
    (hev : ∀ ρ, evI G C itx ρ = some (items, ρ)) (ht : ∀ (x : PV) (q : Nat) (ρ : Env), x ∈ items → ρ[it]? = some (.fz x) → LI m ib us ns (q + Q) ρ → ∃ ρ', evSs G C tBody ρ = some (.nx, ρ') ∧ LI m ib us ns q ρ') (a : Nat) (ha : a ≤ 1000) (h : LO m us ns ρ) :
    ∃ ρ', fT G C (.name 1) [.asg (.name ib) (.call c_law_bag [(.val, (.var 0)), (.val, (.var 1))]), .for_ (.name it) itx tBody] (.int (a : Int)) ρ = some (.nx, ρ') ∧ LO m us ns ρ' := by
  subst hk
  obtain ⟨hl, hf, hu, h0⟩ := h
  obtain ⟨v, eb, hv⟩ := e_law_bag k ns a ha
  have l1 : 1 < ρ.length := by omega
  have hb1 := bind_nm (i := 1) (.int (a : Int)) hf l1
  have f1 := hf.fz 1 (.int (a : Int))
  have g0 : (ρ.set 1 (.fz (.int (a : Int))))[0]? = some (.fz (.lst (ns.map PV.int))) := by rw [List.getElem?_set_ne (by decide)]; exact h0
  have g1 : (ρ.set 1 (.fz (.int (a : Int))))[1]? = some (.fz (.int (a : Int))) := List.getElem?_set_self l1
  have hc : evE G (evCl G F (k + 1)) (.call c_law_bag [(.val, (.var 0)), (.val, (.var 1))]) (ρ.set 1 (.fz (.int (a : Int)))) = some (.fr v, ρ.set 1 (.fz (.int (a : Int)))) := val_call (vs := [.lst (ns.map PV.int), .int (a : Int)]) (a1 (v_fz g0) rfl (a1 (v_fz g1) rfl a0)) eb
  have e1 := s_put (i := ib) hc f1 (by rw [List.length_set]; omega)
  have li : LI m ib us ns (0 + Q * items.length) ((ρ.set 1 (.fz (.int (a : Int)))).set ib (rs (.fr v))) := by
    refine ⟨by rw [List.length_set, List.length_set]; exact hl, f1.rs ib _, fun j hj => by rw [List.getElem?_set_ne (Ne.symm (hus j hj).2.1), List.getElem?_set_ne (Ne.symm (hus j hj).1)]; exact hu j hj, ?_, v, List.getElem?_set_self (by rw [List.length_set]; omega), hv.less (by omega)⟩
    rw [List.getElem?_set_ne (by omega)]
    exact g0
  obtain ⟨ρ', e2, l2⟩ := for_keep (turn := fT G (evCl G F (k + 1)) (.name it) tBody) (I := LI m ib us ns) items Q (fun x n ρ1 hx hi => by
    obtain ⟨w, hw, hbw⟩ := hi.bag
    have lt : it < ρ1.length := by rw [hi.len]; exact hitm
    have hi2 : LI m ib us ns (n + Q) (ρ1.set it (.fz x)) := ⟨by rw [List.length_set]; exact hi.len, hi.fr.fz it x, fun j hj => by rw [List.getElem?_set_ne (Ne.symm (hus j hj).2.2)]; exact hi.un j hj, by rw [List.getElem?_set_ne (by omega)]; exact hi.s0, w, by rw [List.getElem?_set_ne hitb]; exact hw, hbw⟩
    obtain ⟨ρ2, e, l⟩ := ht x n _ hx (List.getElem?_set_self lt) hi2
    refine ⟨ρ2, ?_, l⟩
    rw [fT, bind_nm x hi.fr lt, Option.bind_some]
    exact e) 0 _ li
  refine ⟨ρ', ?_, l2.len, l2.fr, l2.un, l2.s0⟩
  rw [fT, hb1, Option.bind_some, q_cons, e1, th_nx, q_cons, s_for, hev, Option.bind_some]
  show thenS (forLoop _ _ _) _ = _
  rw [e2, th_nx]
  rfl
/-- an item of a written list of data -/
theorem idx_lstV {C : Cl} {es : List (AK × Ex)} {e : Ex} {ρ ρ1 ρ2 : Env} {vs : List PV} {d : Int} {n : Nat} (ha : evAs G C es ρ = some (vs.map Bw.val, ρ1)) (he : evE G C e ρ1 = some (.fz (.int d), ρ2)) (h0 : 0 ≤ d) (h1 : d < n) (hn : vs.length = n) (hl : n ≤ 1000) :
    ∃ x, x ∈ vs ∧ evE G C (.idx (.lst es) e) ρ = some (.fz x, ρ2) := by
  have hd : d.toNat < vs.length := by omega
  refine ⟨vs[d.toNat], List.getElem_mem hd, ?_⟩
  have hlst : evE G C (.lst es) ρ = some (.fr (.lst vs), ρ1) := by
    rw [x_lst, ha]
    show (vals? (vs.map Bw.val)).bind _ = _
    rw [vals_map, Option.bind_some, if_pos (by unfold LIM; omega)]
  have i1 : ixN vs.length d = some d.toNat := by
    unfold ixN
    rw [if_pos h0, if_pos (by omega)]
  rw [x_idx, hlst]
  show (evE G C e ρ1).bind _ = _
  rw [he]
  show ((some vs).bind fun xs => _) = _
  rw [Option.bind_some]
  show ((ixN vs.length d).bind fun j => _) = _
  rw [i1]
  show (vs[d.toNat]?.map _) = _
  rw [List.getElem?_eq_getElem hd]
  rfl
def b1 : Sm := .asg (.name 5) (.idx (.lst [(.val, (.lit (.int 2))), (.val, (.lit (.int 16))), (.val, (.lit (.int 255))), (.val, (.lit (.int 256)))]) (.call c_law_grab [(.ref, (.var 3)), (.val, (.lit (.int 4)))]))
def bbE : Ex := .bin .mul (.var 5) (.var 5)
def b2 : Sm := .asg (.name 6) (.idx (.lst [(.val, (.bin .add (.lit (.int 9)) (.call c_law_grab [(.ref, (.var 3)), (.val, (.lit (.int 150)))]))), (.val, (.bin .sub bbE (.lit (.int 1)))), (.val, (.lit (.int 65535))), (.val, (.call c_law_grab [(.ref, (.var 3)), (.val, bbE)]))]) (.call c_law_grab [(.ref, (.var 3)), (.val, (.lit (.int 4)))]))
def b3 : Sm := .asg (.name 7) (.idx (.lst [(.val, (.tup [])), (.val, (.tup [(.val, (.tup [(.val, (.lit (.int 0))), (.val, (.lit (.str "stop")))]))])), (.val, (.tup [(.val, (.tup [(.val, (.lit (.int 0))), (.val, (.lit (.str "end")))]))]))]) (.call c_law_grab [(.ref, (.var 3)), (.val, (.lit (.int 3)))]))
def hlE : Ex := .idx (.lst [(.val, (.lit (.str "high"))), (.val, (.lit (.str "low")))]) (.call c_law_grab [(.ref, (.var 3)), (.val, (.lit (.int 2)))])
def tgE : Ex := .bin .add (.var 7) (.tup [(.val, (.tup [(.val, (.lit (.int 1))), (.val, (.var 4))]))])
def b4 : Sm := .asg (.name 8) (.tup [(.val, (.var 5)), (.val, (.tup [])), (.val, hlE), (.val, (.var 6)), (.val, tgE), (.val, (.lit (.str "refuse")))])
def c1 : Sm := .asg (.name 10) (.call c_law_long_file [(.ref, (.var 3)), (.val, (.var 8)), (.val, (.var 4))])
def c2 : Sm := .asg (.tup [(.name 12), (.name 13), (.name 14)]) (.call c_law_reading [(.val, (.var 8)), (.val, (.var 10))])
def c3 : Sm := .asg (.name 11) (.var 14)
def cpE : Ex := .comp (.var 15) [15] (.name 15) (.range [(.val, (.bi .len [(.ref, (.var 10))]))]) [(.cmp .notin (.var 15) (.var 13))]
def c4 : Sm := .ite (.cmp .is (.var 14) (.lit .non)) [.asg (.name 11) (.lst [(.val, (.var 12)), (.val, cpE)])] []
def c5a : Ex := .lst [(.val, (.call c_refusal [(.val, (.var 8)), (.val, (.var 10))])), (.val, (.call c_law_told [(.val, (.var 8)), (.val, (.var 10))]))]
def c5b : Ex := .lst [(.val, (.var 14)), (.val, (.var 11))]
def c5 : Sm := .ite (.not (.call c_law_equal [(.val, c5a), (.val, c5b)])) [.ret (.lit (.bl false))] []
def b5 : Sm := .for_ (.name 9) (.range [(.val, (.lit (.int 5)))]) [c1, c2, c3, c4, c5]
def tB : List Sm := [b1, b2, b3, b4, b5]
theorem is_v {C : Cl} {i : Nat} {ρ : Env} {v : PV} (h : ρ[i]? = some (.fz v)) : evE G C (.cmp .is (.var i) (.lit .non)) ρ = some (.fz (.bl (isNon v)), ρ) := by
  rw [x_cmp, bw_v (pk_fz h), Option.bind_some]
  show (deref (.slot i) ρ).bind _ = _
  rw [d_slot, pk_fz h]
  rfl
/-- what the trials keep -/
structure KI (f : Fm) (u : Str) (q : Nat) (ρ0 ρ : Env) : Prop where
  len : ρ.length = 16
  fr : Fr ρ
  ag : Ag [3, 9, 10, 11, 12, 13, 14] ρ0 ρ
  s4 : ρ[4]? = some (.fz (.str u))
  s8 : ρ[8]? = some (.fz f.pv)
  s15 : ρ[15]? = some .un
  bag : ∃ v, ρ[3]? = some (.ow v) ∧ BG q v
theorem KI.set {f : Fm} {u : Str} {q : Nat} {ρ0 ρ : Env} (h : KI f u q ρ0 ρ) {i : Nat} {s : Slot} (hs : ∀ v, s ≠ .pn v) (hi : i = 9 ∨ i = 10 ∨ i = 11 ∨ i = 12 ∨ i = 13 ∨ i = 14) : KI f u q ρ0 (ρ.set i s) := by
  obtain ⟨w, hw, hb⟩ := h.bag
  refine ⟨by rw [List.length_set]; exact h.len, h.fr.set i hs, h.ag.trans (Ag.set ρ i _ ?_), by rw [gs_ne (by omega)]; exact h.s4, by rw [gs_ne (by omega)]; exact h.s8, by rw [gs_ne (by omega)]; exact h.s15, w, by rw [gs_ne (by omega)]; exact hw, hb⟩
  rcases hi with rfl | rfl | rfl | rfl | rfl | rfl <;> decide
theorem l_trial (k q : Nat) {f : Fm} (hf : f.Ok) (u : Str) (x : PV) (ρ0 ρ : Env) (h : KI f u (q + 200) ρ0 ρ) : ∃ ρ', fT G (evCl G F (k + 7)) (.name 9) [c1, c2, c3, c4, c5] x ρ = some (.nx, ρ') ∧ KI f u q ρ0 ρ' := by
  have nfz : ∀ w : PV, ∀ v, Slot.fz w ≠ .pn v := fun w v z => nomatch z
  have now : ∀ w : PV, ∀ v, Slot.ow w ≠ .pn v := fun w v z => nomatch z
  have hbn := bind_nm (i := 9) x h.fr (by rw [h.len]; decide)
  have h1 := h.set (i := 9) (nfz x) (.inl rfl)
  generalize ρ.set 9 (.fz x) = ρ1 at hbn h1
  obtain ⟨v, hv, hb⟩ := h1.bag
  obtain ⟨v', xs, g, hv', hx, hl⟩ := e_long_file (k + 5) q v f hf u hb
  have g : evCl G F (k + 7) c_law_long_file [(true, v), (false, f.pv), (false, .str u)] = some (.fz (sg xs), [v']) := g
  have hc := ref_call (C := evCl G F (k + 7)) (g := c_law_long_file) (i := 3) (es := [(.val, (.var 8)), (.val, (.var 4))]) (ρ := ρ1) (ρ1 := ρ1) (v := v) (vs := [f.pv, .str u]) (peek_ow hv) (a1 (v_fz h1.s8) rfl (a1 (v_fz h1.s4) rfl a0)) hv g
  have e1 : evS G (evCl G F (k + 7)) c1 ρ1 = some (.nx, (ρ1.set 3 (.ow v')).set 10 (.fz (sg xs))) := s_put hc (h1.fr.ow 3 v') (by rw [List.length_set, h1.len]; decide)
  have hk2 : KI f u q ρ0 (ρ1.set 3 (.ow v')) :=
    ⟨by rw [List.length_set]; exact h1.len, h1.fr.ow 3 v', h1.ag.trans (Ag.set ρ1 3 _ (by decide)), by rw [gs_ne (by decide)]; exact h1.s4, by rw [gs_ne (by decide)]; exact h1.s8, by rw [gs_ne (by decide)]; exact h1.s15, v', List.getElem?_set_self (by rw [h1.len]; decide), hv'⟩
  have h10 : ((ρ1.set 3 (.ow v')).set 10 (.fz (sg xs)))[10]? = some (.fz (sg xs)) := List.getElem?_set_self (by rw [hk2.len]; decide)
  have hk3 := hk2.set (i := 10) (nfz (sg xs)) (.inr (.inl rfl))
  generalize (ρ1.set 3 (.ow v')).set 10 (.fz (sg xs)) = ρ2 at e1 h10 hk3
  have hr := e_law_reading (k + 4) f hf xs (by omega) hx
  have hrf := e_refusal (k + 1) f hf xs (by omega) hx
  have htd := e_law_told k f hf xs (by omega) hx
  have heq : ∀ T B, rd f (firstS f) 0 [] [] xs = .ok T B → T.length ≤ 1000 ∧ ∀ c ∈ T, c.2.length ≤ 1000 := fun T B hh => by
    obtain ⟨l1, l2⟩ := rd_len f xs 0 (firstS f) [] [] T B (Nat.le_refl _) (fun c hc => by cases hc) hh
    exact ⟨by omega, fun c hc => by have := l2 c hc; omega⟩
  generalize rd f (firstS f) 0 [] [] xs = r at hr hrf htd heq
  rw [R.pv3] at hr
  have hc2 : evE G (evCl G F (k + 7)) (.call c_law_reading [(.val, (.var 8)), (.val, (.var 10))]) ρ2 = some (.fz (.tup [r.c1, r.c2, r.rf]), ρ2) := val_call (vs := [f.pv, sg xs]) (a1 (v_fz hk3.s8) rfl (a1 (v_fz h10) rfl a0)) hr
  have e2 : evS G (evCl G F (k + 7)) c2 ρ2 = some (.nx, ((ρ2.set 12 (.fz r.c1)).set 13 (.fz r.c2)).set 14 (.fz r.rf)) := by
    rw [c2, s_asgT, hc2, Option.bind_some]
    show ((bindP (.tup [(.name 12), (.name 13), (.name 14)]) (.tup [r.c1, r.c2, r.rf]) ρ2).map _) = _
    rw [bind3 hk3.fr (by rw [hk3.len]; decide) (by rw [hk3.len]; decide) (by rw [hk3.len]; decide)]
    rfl
  have hk4 := ((hk3.set (i := 12) (nfz r.c1) (by decide)).set (i := 13) (nfz r.c2) (by decide)).set (i := 14) (nfz r.rf) (by decide)
  have m12 : (((ρ2.set 12 (.fz r.c1)).set 13 (.fz r.c2)).set 14 (.fz r.rf))[12]? = some (.fz r.c1) := by rw [gs_ne (by decide), gs_ne (by decide)]; exact List.getElem?_set_self (by rw [hk3.len]; decide)
  have m13 : (((ρ2.set 12 (.fz r.c1)).set 13 (.fz r.c2)).set 14 (.fz r.rf))[13]? = some (.fz r.c2) := by rw [gs_ne (by decide)]; exact List.getElem?_set_self (by rw [List.length_set, hk3.len]; decide)
  have m14 : (((ρ2.set 12 (.fz r.c1)).set 13 (.fz r.c2)).set 14 (.fz r.rf))[14]? = some (.fz r.rf) := List.getElem?_set_self (by rw [List.length_set, List.length_set, hk3.len]; decide)
  have m10 : (((ρ2.set 12 (.fz r.c1)).set 13 (.fz r.c2)).set 14 (.fz r.rf))[10]? = some (.fz (sg xs)) := by rw [gs_ne (by decide), gs_ne (by decide), gs_ne (by decide)]; exact h10
  generalize ((ρ2.set 12 (.fz r.c1)).set 13 (.fz r.c2)).set 14 (.fz r.rf) = ρ3 at e2 hk4 m12 m13 m14 m10
  have e3 : evS G (evCl G F (k + 7)) c3 ρ3 = some (.nx, ρ3.set 11 (.fz r.rf)) := s_put (v_fz m14) hk4.fr (by rw [hk4.len]; decide)
  have hk5 := hk4.set (i := 11) (nfz r.rf) (by decide)
  have n11 : (ρ3.set 11 (.fz r.rf))[11]? = some (.fz r.rf) := List.getElem?_set_self (by rw [hk4.len]; decide)
  have n12 : (ρ3.set 11 (.fz r.rf))[12]? = some (.fz r.c1) := by rw [gs_ne (by decide)]; exact m12
  have n13 : (ρ3.set 11 (.fz r.rf))[13]? = some (.fz r.c2) := by rw [gs_ne (by decide)]; exact m13
  have n14 : (ρ3.set 11 (.fz r.rf))[14]? = some (.fz r.rf) := by rw [gs_ne (by decide)]; exact m14
  have n10 : (ρ3.set 11 (.fz r.rf))[10]? = some (.fz (sg xs)) := by rw [gs_ne (by decide)]; exact m10
  generalize ρ3.set 11 (.fz r.rf) = ρ4 at e3 hk5 n11 n12 n13 n14 n10
  -- what is due
  obtain ⟨ρ5, e4, hk6, p11, p14, p10⟩ : ∃ ρ5, evS G (evCl G F (k + 7)) c4 ρ4 = some (.nx, ρ5) ∧ KI f u q ρ0 ρ5 ∧ Hz ρ5 11 (r.told xs) ∧ ρ5[14]? = some (.fz r.rf) ∧ ρ5[10]? = some (.fz (sg xs)) := by
    have hc4 := is_v (C := evCl G F (k + 7)) n14
    cases r with
    | bad p w =>
      refine ⟨ρ4, ?_, hk5, .inr n11, n14, n10⟩
      rw [c4, ite_ev hc4]
      rfl
    | ok T B =>
      have hlen : evE G (evCl G F (k + 7)) (.bi .len [(.ref, (.var 10))]) ρ4 = some (.fz (.int (xs.length : Int)), ρ4) := by
        have := len_v (C := evCl G F (k + 7)) (xs := xs.map PV.int) (pk_fz n10) (.inl rfl)
        rw [List.length_map] at this
        exact this
      have hcp := comp_notin (C := evCl G F (k + 7)) (i := 13) (j := 15) (B := B) (by decide) n13 hk5.s15 hk5.fr (by omega) hlen
      have hD : PV.lst (((List.range xs.length).filter fun i => !B.contains i).map natV) = Dv xs B := by
        unfold Dv lkd
        rw [List.range_eq_range']
      rw [hD] at hcp
      have hcp : evE G (evCl G F (k + 7)) cpE ρ4 = some (.fr (Dv xs B), ρ4) := hcp
      have hls : evE G (evCl G F (k + 7)) (.lst [(.val, (.var 12)), (.val, cpE)]) ρ4 = some (.fr (.lst [.tup (T.map chV), Dv xs B]), ρ4) := by
        rw [x_lst, a1 (v_fz n12) rfl (a1 hcp rfl a0)]
        rfl
      refine ⟨ρ4.set 11 (.ow (.lst [.tup (T.map chV), Dv xs B])), ?_, hk5.set (i := 11) (now _) (by decide), .inl (List.getElem?_set_self (by rw [hk5.len]; decide)), by rw [gs_ne (by decide)]; exact n14, by rw [gs_ne (by decide)]; exact n10⟩
      rw [c4, ite_ev hc4, if_pos (by rfl), q_cons, s_put hls hk5.fr (by rw [hk5.len]; decide), th_nx]
      rfl
  -- the comparison
  have q1 : evE G (evCl G F (k + 7)) (.call c_refusal [(.val, (.var 8)), (.val, (.var 10))]) ρ5 = some (.fz r.rf, ρ5) := val_call (vs := [f.pv, sg xs]) (a1 (v_fz hk6.s8) rfl (a1 (v_fz p10) rfl a0)) hrf
  have q2 : evE G (evCl G F (k + 7)) (.call c_law_told [(.val, (.var 8)), (.val, (.var 10))]) ρ5 = some (.fz (r.told xs), ρ5) := val_call (vs := [f.pv, sg xs]) (a1 (v_fz hk6.s8) rfl (a1 (v_fz p10) rfl a0)) htd
  have qa : evE G (evCl G F (k + 7)) c5a ρ5 = some (.fr (.lst [r.rf, r.told xs]), ρ5) := by
    rw [c5a, x_lst, a1 q1 rfl (a1 q2 rfl a0)]
    rfl
  have qb : evE G (evCl G F (k + 7)) c5b ρ5 = some (.fr (.lst [r.rf, r.told xs]), ρ5.set 11 (.fz (r.told xs))) := by
    rw [c5b, x_lst, a1 (v_fz p14) rfl (a1 (v_hz p11) rfl a0)]
    rfl
  have hq : eqv 5 (.lst [r.rf, r.told xs]) := by
    refine .inr ⟨_, .inr rfl, by show 2 ≤ 1000; decide, fun y hy => ?_⟩
    have : y = r.rf ∨ y = r.told xs := by simpa using hy
    rcases this with rfl | rfl
    · exact eqv_mono (eqv_mono (eqv_mono (eqv_rf r)))
    · exact eqv_R r xs (by omega) heq
  have ec : evE G (evCl G F (k + 7)) (.call c_law_equal [(.val, c5a), (.val, c5b)]) ρ5 = some (.fz (.bl true), ρ5.set 11 (.fz (r.told xs))) :=
    val_call (vs := [.lst [r.rf, r.told xs], .lst [r.rf, r.told xs]]) (a1 qa rfl (a1 qb rfl a0)) (equal_self 5 (k + 1) _ hq)
  have e5 : evS G (evCl G F (k + 7)) c5 ρ5 = some (.nx, ρ5.set 11 (.fz (r.told xs))) := by
    rw [c5, ite_ev (not_ev ec)]
    rfl
  refine ⟨_, ?_, hk6.set (i := 11) (nfz (r.told xs)) (by decide)⟩
  rw [fT, hbn, Option.bind_some, q_cons, e1, th_nx, q_cons, e2, th_nx, q_cons, e3, th_nx, q_cons, e4, th_nx, q_cons, e5, th_nx]
  rfl
/-- the form that a turn makes -/
def mkF (b : Int) (w : W) (t : Int) (tg : List (Int × U)) (u : U) : Fm := ⟨b, [], w, t, tg ++ [(1, u)], false⟩
theorem mkF_ok {b t : Int} {w : W} {tg : List (Int × U)} {u : U} (hb : 2 ≤ b) (hb2 : b ≤ 256) (ht0 : 0 ≤ t) (ht : t ≤ 65535) (htg : tg = [] ∨ tg = [(0, .stop)] ∨ tg = [(0, .fin)]) : (mkF b w t tg u).Ok := by
  have i0 : inB b 0 = true := inB_of (by omega) (by omega)
  have i1 : inB b 1 = true := inB_of (by omega) (by omega)
  have htgs : ∀ x ∈ tg ++ [(1, u)], inB b x.1 = true := fun x hx => by
    rcases htg with rfl | rfl | rfl
    · have : x = (1, u) := by simpa using hx
      rw [this]; exact i1
    · have : x = (0, .stop) ∨ x = (1, u) := by simpa using hx
      rcases this with rfl | rfl
      · exact i0
      · exact i1
    · have : x = (0, .fin) ∨ x = (1, u) := by simpa using hx
      rcases this with rfl | rfl
      · exact i0
      · exact i1
  have hlen : (tg ++ [(1, u)]).length ≤ 1000 := by
    rcases htg with rfl | rfl | rfl <;> simp
  have hst : sortedT (tg ++ [(1, u)]) = true := by
    rcases htg with rfl | rfl | rfl <;> rfl
  exact ⟨hb, hb2, (fun o ho => by cases ho), (show ([] : List (Option Int)).length ≤ 1000 by decide), ht0, ht, htgs, hlen, hst⟩
theorem l_form (k q : Nat) (ns : List Int) (u : U) (ρ : Env) (h : LI 16 3 [15] ns (q + 10) ρ) (h4 : ρ[4]? = some (.fz (.str u.str))) : ∃ (f : Fm) (ρ' : Env), evSs G (evCl G F (k + 1)) [b1, b2, b3, b4] ρ = some (.nx, ρ') ∧ LI 16 3 [15] ns q ρ' ∧ ρ'[4]? = some (.fz (.str u.str)) ∧ ρ'[8]? = some (.fz f.pv) ∧ f.Ok := by
  obtain ⟨hl, hf, hu, h0, v, hv, hb⟩ := h
  have h15 := hu 15 (by simp)
  obtain ⟨b, v1, hbm, e1, hb1⟩ := draw_from (k := k) (q := q + 9) (es := [(.val, (.lit (.int 2))), (.val, (.lit (.int 16))), (.val, (.lit (.int 255))), (.val, (.lit (.int 256)))]) (is := [2, 16, 255, 256]) (n := 4) hv hb rfl (by decide) (by decide) rfl rfl
  have hbr : 2 ≤ b ∧ b ≤ 256 := by
    have : b = 2 ∨ b = 16 ∨ b = 255 ∨ b = 256 := by simpa using hbm
    omega
  have s1 : evS G (evCl G F (k + 1)) b1 ρ = some (.nx, (ρ.set 3 (.ow v1)).set 5 (.fz (.int b))) := s_put e1 (hf.ow 3 v1) (by rw [List.length_set]; omega)
  have f1 : Fr ((ρ.set 3 (.ow v1)).set 5 (.fz (.int b))) := (hf.ow 3 v1).fz 5 _
  have l1 : ((ρ.set 3 (.ow v1)).set 5 (.fz (.int b))).length = 16 := by simp [hl]
  have g3 : ((ρ.set 3 (.ow v1)).set 5 (.fz (.int b)))[3]? = some (.ow v1) := by simp [hl]
  have g5 : ((ρ.set 3 (.ow v1)).set 5 (.fz (.int b)))[5]? = some (.fz (.int b)) := by simp [hl]
  have a01 : Ag [3, 5, 6, 7, 8] ρ ((ρ.set 3 (.ow v1)).set 5 (.fz (.int b))) := (Ag.set ρ 3 _ (by decide)).trans (Ag.set _ 5 _ (by decide))
  generalize (ρ.set 3 (.ow v1)).set 5 (.fz (.int b)) = ρ1 at s1 f1 l1 g3 g5 a01
  -- the greatest length
  have hbb : 0 < b * b := Int.mul_pos (by omega) (by omega)
  have hbb2 : b * b ≤ 256 * 256 := Int.mul_le_mul hbr.2 hbr.2 (by omega) (by omega)
  have hmul := b_mulR b b (by omega) (by omega)
  have ebb : ∀ ρ' : Env, ρ'[5]? = some (.fz (.int b)) → evE G (evCl G F (k + 1)) bbE ρ' = some (.fz (.int (b * b)), ρ') := fun ρ' g => by
    rw [bbE, x_bin, bw_v (pk_fz g), Option.bind_some, bw_v (pk_fz g), Option.bind_some, d_slot, pk_fz g, Option.bind_some, Option.bind_some, hmul]
    rfl
  obtain ⟨d1, v2, gr1, p1, p2, hb2⟩ := grab_at (k := k) (q := q + 8) (i := 3) (ρ := ρ1) (v := v1) (e := .lit (.int 150)) (b := 150) g3 rfl hb1 (by decide) (by decide)
  have w3 : (ρ1.set 3 (.ow v2))[3]? = some (.ow v2) := List.getElem?_set_self (by omega)
  have w5 : (ρ1.set 3 (.ow v2))[5]? = some (.fz (.int b)) := by rw [gs_ne (by decide)]; exact g5
  obtain ⟨d2, v3, gr2, p3, p4, hb3⟩ := grab_at (k := k) (q := q + 7) (i := 3) (ρ := ρ1.set 3 (.ow v2)) (v := v2) (e := bbE) (b := b * b) w3 (ebb _ w5) hb2 hbb (by omega)
  rw [List.set_set] at gr2
  have w3' : (ρ1.set 3 (.ow v3))[3]? = some (.ow v3) := List.getElem?_set_self (by omega)
  obtain ⟨d3, v4, gr3, p5, p6, hb4⟩ := grab_at (k := k) (q := q + 6) (i := 3) (ρ := ρ1.set 3 (.ow v3)) (v := v3) (e := .lit (.int 4)) (b := 4) w3' rfl hb3 (by decide) (by decide)
  rw [List.set_set] at gr3
  have ha : evAs G (evCl G F (k + 1)) [(.val, (.bin .add (.lit (.int 9)) (.call c_law_grab [(.ref, (.var 3)), (.val, (.lit (.int 150)))]))), (.val, (.bin .sub bbE (.lit (.int 1)))), (.val, (.lit (.int 65535))), (.val, (.call c_law_grab [(.ref, (.var 3)), (.val, bbE)]))] ρ1 =
      some (([9 + d1, b * b - 1, 65535, d2] : List Int).map fun i => Bw.val (.int i), ρ1.set 3 (.ow v3)) := by
    have x1 : evE G (evCl G F (k + 1)) (.bin .add (.lit (.int 9)) (.call c_law_grab [(.ref, (.var 3)), (.val, (.lit (.int 150)))])) ρ1 = some (.fz (.int (9 + d1)), ρ1.set 3 (.ow v2)) := by
      rw [x_bin, x_lit]
      show (bw (.call c_law_grab [(.ref, (.var 3)), (.val, (.lit (.int 150)))]) (evE G (evCl G F (k + 1)) (.call c_law_grab [(.ref, (.var 3)), (.val, (.lit (.int 150)))]) ρ1) ρ1).bind _ = _
      rw [gr1]
      rfl
    have x2 : evE G (evCl G F (k + 1)) (.bin .sub bbE (.lit (.int 1))) (ρ1.set 3 (.ow v2)) = some (.fz (.int (b * b - 1)), ρ1.set 3 (.ow v2)) := by
      rw [x_bin, ebb _ w5]
      rfl
    exact a1 x1 rfl (a1 x2 rfl (a1 (r := .fz (.int 65535)) rfl rfl (a1 gr2 rfl rfl)))
  obtain ⟨t, ht, et⟩ := idx_lst ha gr3 p5 p6 rfl (by decide)
  have htr : 0 ≤ t ∧ t ≤ 65535 := by
    have : t = 9 + d1 ∨ t = b * b - 1 ∨ t = 65535 ∨ t = d2 := by simpa using ht
    omega
  have s2 : evS G (evCl G F (k + 1)) b2 ρ1 = some (.nx, (ρ1.set 3 (.ow v4)).set 6 (.fz (.int t))) := s_put et (f1.ow 3 v4) (by rw [List.length_set]; omega)
  have f2 : Fr ((ρ1.set 3 (.ow v4)).set 6 (.fz (.int t))) := (f1.ow 3 v4).fz 6 _
  have l2 : ((ρ1.set 3 (.ow v4)).set 6 (.fz (.int t))).length = 16 := by simp [l1]
  have g3' : ((ρ1.set 3 (.ow v4)).set 6 (.fz (.int t)))[3]? = some (.ow v4) := by simp [l1]
  have g6 : ((ρ1.set 3 (.ow v4)).set 6 (.fz (.int t)))[6]? = some (.fz (.int t)) := by simp [l1]
  have g5' : ((ρ1.set 3 (.ow v4)).set 6 (.fz (.int t)))[5]? = some (.fz (.int b)) := by rw [gs_ne (by decide), gs_ne (by decide)]; exact g5
  have a12 : Ag [3, 5, 6, 7, 8] ρ1 ((ρ1.set 3 (.ow v4)).set 6 (.fz (.int t))) := (Ag.set ρ1 3 _ (by decide)).trans (Ag.set _ 6 _ (by decide))
  generalize (ρ1.set 3 (.ow v4)).set 6 (.fz (.int t)) = ρ2 at s2 f2 l2 g3' g6 g5' a12
  -- the ends
  obtain ⟨d5, v5, gr5, p7, p8, hb5⟩ := grab_at (k := k) (q := q + 5) (i := 3) (ρ := ρ2) (v := v4) (e := .lit (.int 3)) (b := 3) g3' rfl hb4 (by decide) (by decide)
  obtain ⟨z, hz, ez⟩ := idx_lstV (C := evCl G F (k + 1)) (es := [(.val, (.tup [])), (.val, (.tup [(.val, (.tup [(.val, (.lit (.int 0))), (.val, (.lit (.str "stop")))]))])), (.val, (.tup [(.val, (.tup [(.val, (.lit (.int 0))), (.val, (.lit (.str "end")))]))]))]) (vs := [.tup [], .tup [.tup [.int 0, .str "stop"]], .tup [.tup [.int 0, .str "end"]]]) (n := 3) (ρ := ρ2) rfl gr5 p7 p8 rfl (by decide)
  obtain ⟨tg, hz', htg⟩ : ∃ tg : List (Int × U), z = .tup (tg.map row) ∧ (tg = [] ∨ tg = [(0, .stop)] ∨ tg = [(0, .fin)]) := by
    have : z = .tup [] ∨ z = .tup [.tup [.int 0, .str "stop"]] ∨ z = .tup [.tup [.int 0, .str "end"]] := by simpa using hz
    rcases this with rfl | rfl | rfl
    · exact ⟨[], rfl, .inl rfl⟩
    · exact ⟨[(0, .stop)], rfl, .inr (.inl rfl)⟩
    · exact ⟨[(0, .fin)], rfl, .inr (.inr rfl)⟩
  subst hz'
  have s3 : evS G (evCl G F (k + 1)) b3 ρ2 = some (.nx, (ρ2.set 3 (.ow v5)).set 7 (.fz (.tup (tg.map row)))) := s_put ez (f2.ow 3 v5) (by rw [List.length_set]; omega)
  have f3 : Fr ((ρ2.set 3 (.ow v5)).set 7 (.fz (.tup (tg.map row)))) := (f2.ow 3 v5).fz 7 _
  have l3 : ((ρ2.set 3 (.ow v5)).set 7 (.fz (.tup (tg.map row)))).length = 16 := by simp [l2]
  have k3 : ((ρ2.set 3 (.ow v5)).set 7 (.fz (.tup (tg.map row))))[3]? = some (.ow v5) := by simp [l2]
  have k7 : ((ρ2.set 3 (.ow v5)).set 7 (.fz (.tup (tg.map row))))[7]? = some (.fz (.tup (tg.map row))) := by simp [l2]
  have k5 : ((ρ2.set 3 (.ow v5)).set 7 (.fz (.tup (tg.map row))))[5]? = some (.fz (.int b)) := by rw [gs_ne (by decide), gs_ne (by decide)]; exact g5'
  have k6 : ((ρ2.set 3 (.ow v5)).set 7 (.fz (.tup (tg.map row))))[6]? = some (.fz (.int t)) := by rw [gs_ne (by decide), gs_ne (by decide)]; exact g6
  have a23 : Ag [3, 5, 6, 7, 8] ρ2 ((ρ2.set 3 (.ow v5)).set 7 (.fz (.tup (tg.map row)))) := (Ag.set ρ2 3 _ (by decide)).trans (Ag.set _ 7 _ (by decide))
  generalize (ρ2.set 3 (.ow v5)).set 7 (.fz (.tup (tg.map row))) = ρ3 at s3 f3 l3 k3 k7 k5 k6 a23
  have a03 := (a01.trans a12).trans a23
  have k4 := a03.at (by decide) h4
  -- the form
  obtain ⟨d6, v6, gr6, p9, p10, hb6⟩ := grab_at (k := k) (q := q + 4) (i := 3) (ρ := ρ3) (v := v5) (e := .lit (.int 2)) (b := 2) k3 rfl hb5 (by decide) (by decide)
  obtain ⟨y, hy, ey⟩ := idx_lstV (C := evCl G F (k + 1)) (es := [(.val, (.lit (.str "high"))), (.val, (.lit (.str "low")))]) (vs := [.str "high", .str "low"]) (n := 2) (ρ := ρ3) rfl gr6 p9 p10 rfl (by decide)
  obtain ⟨w, hw⟩ : ∃ w : W, y = .str w.str := by
    have : y = .str "high" ∨ y = .str "low" := by simpa using hy
    rcases this with rfl | rfl
    · exact ⟨.high, rfl⟩
    · exact ⟨.low, rfl⟩
  subst hw
  have m5 : (ρ3.set 3 (.ow v6))[6]? = some (.fz (.int t)) := by rw [gs_ne (by decide)]; exact k6
  have m7 : (ρ3.set 3 (.ow v6))[7]? = some (.fz (.tup (tg.map row))) := by rw [gs_ne (by decide)]; exact k7
  have m4 : (ρ3.set 3 (.ow v6))[4]? = some (.fz (.str u.str)) := by rw [gs_ne (by decide)]; exact k4
  have etg : evE G (evCl G F (k + 1)) tgE (ρ3.set 3 (.ow v6)) = some (.fz (.tup ((tg ++ [(1, u)]).map row)), ρ3.set 3 (.ow v6)) := by
    have er : evE G (evCl G F (k + 1)) (.tup [(.val, (.tup [(.val, (.lit (.int 1))), (.val, (.var 4))]))]) (ρ3.set 3 (.ow v6)) = some (.fz (.tup [.tup [.int 1, .str u.str]]), ρ3.set 3 (.ow v6)) := by
      have e0 : evE G (evCl G F (k + 1)) (.tup [(.val, (.lit (.int 1))), (.val, (.var 4))]) (ρ3.set 3 (.ow v6)) = some (.fz (.tup [.int 1, .str u.str]), ρ3.set 3 (.ow v6)) := by
        rw [x_tup, a1 (r := .fz (.int 1)) (v := .int 1) rfl rfl (a1 (v_fz m4) rfl a0)]
        rfl
      rw [x_tup, a1 e0 rfl a0]
      rfl
    have hl7 : tg.length ≤ 1 := by rcases htg with rfl | rfl | rfl <;> decide
    rw [tgE, x_bin, bw_v (pk_fz m7), Option.bind_some]
    show (bw (.tup [(.val, (.tup [(.val, (.lit (.int 1))), (.val, (.var 4))]))]) (evE G (evCl G F (k + 1)) (.tup [(.val, (.tup [(.val, (.lit (.int 1))), (.val, (.var 4))]))]) (ρ3.set 3 (.ow v6))) (ρ3.set 3 (.ow v6))).bind _ = _
    rw [er]
    show (deref (.slot 7) (ρ3.set 3 (.ow v6))).bind _ = _
    rw [d_slot, pk_fz m7, Option.bind_some]
    show ((binOp .add (.tup (tg.map row)) (.tup [.tup [.int 1, .str u.str]])).map _) = _
    rw [b_catT, if_pos (by rw [List.length_map]; show tg.length + 1 ≤ LIM; unfold LIM; omega), List.map_append]
    rfl
  have e8 : evE G (evCl G F (k + 1)) (.tup [(.val, (.var 5)), (.val, (.tup [])), (.val, hlE), (.val, (.var 6)), (.val, tgE), (.val, (.lit (.str "refuse")))]) ρ3 = some (.fz (mkF b w t tg u).pv, ρ3.set 3 (.ow v6)) := by
    have ey : evE G (evCl G F (k + 1)) hlE ρ3 = some (.fz (.str w.str), ρ3.set 3 (.ow v6)) := ey
    rw [x_tup, a1 (v_fz k5) rfl (a1 (r := .fz (.tup [])) (v := .tup []) rfl rfl (a1 ey rfl (a1 (v_fz m5) rfl (a1 etg rfl (a1 (r := .fz (.str "refuse")) (v := .str "refuse") rfl rfl a0)))))]
    rfl
  have s4 : evS G (evCl G F (k + 1)) b4 ρ3 = some (.nx, (ρ3.set 3 (.ow v6)).set 8 (.fz (mkF b w t tg u).pv)) := s_put e8 (f3.ow 3 v6) (by rw [List.length_set]; omega)
  have a34 : Ag [3, 5, 6, 7, 8] ρ3 ((ρ3.set 3 (.ow v6)).set 8 (.fz (mkF b w t tg u).pv)) := (Ag.set ρ3 3 _ (by decide)).trans (Ag.set _ 8 _ (by decide))
  have a04 := a03.trans a34
  refine ⟨mkF b w t tg u, (ρ3.set 3 (.ow v6)).set 8 (.fz (mkF b w t tg u).pv), ?_, ⟨by simp [l3], (f3.ow 3 v6).fz 8 _, fun j hj => ?_, a04.at (by decide) h0, v6, by simp [l3], hb6.less (by omega)⟩, a04.at (by decide) h4, by simp [l3], mkF_ok hbr.1 hbr.2 htr.1 htr.2 htg⟩
  · rw [q_cons, s1, th_nx, q_cons, s2, th_nx, q_cons, s3, th_nx, q_cons, s4, th_nx]
    rfl
  · have : j = 15 := by simpa using hj
    rw [this]
    exact a04.at (by decide) h15
theorem l_tB (k : Nat) (ns : List Int) (u : U) (q : Nat) (ρ : Env) (h4 : ρ[4]? = some (.fz (.str u.str))) (h : LI 16 3 [15] ns (q + 1100) ρ) : ∃ ρ', evSs G (evCl G F (k + 7)) tB ρ = some (.nx, ρ') ∧ LI 16 3 [15] ns q ρ' := by
  obtain ⟨hl, hf, hu, h0, v, hv, hb⟩ := h
  obtain ⟨f, ρ1, e1, li, s4, s8, hfo⟩ := l_form (k + 6) (q + 1000) ns u ρ ⟨hl, hf, hu, h0, v, hv, hb.less (by omega)⟩ h4
  obtain ⟨v1, hv1, hb1⟩ := li.bag
  have ki : KI f u.str (q + 200 * ((List.range 5).map fun i => PV.int (i : Nat)).length) ρ1 ρ1 := ⟨li.len, li.fr, Ag.refl _ _, s4, s8, li.un 15 (by simp), v1, hv1, hb1.less (by rw [List.length_map, List.length_range]; omega)⟩
  obtain ⟨ρ2, e2, h2⟩ := for_keep (turn := fT G (evCl G F (k + 7)) (.name 9) [c1, c2, c3, c4, c5]) (I := fun n ρ => KI f u.str n ρ1 ρ) ((List.range 5).map fun i => PV.int (i : Nat)) 200 (fun x n ρ _ hi => l_trial k n hfo u.str x ρ1 ρ hi) q ρ1 ki
  have e3 : evS G (evCl G F (k + 7)) b5 ρ1 = some (.nx, ρ2) := by
    rw [b5, s_for, range_ev (n := 5) rfl (by decide), Option.bind_some]
    exact e2
  refine ⟨ρ2, ?_, h2.len, h2.fr, fun j hj => ?_, h2.ag.at (by decide) li.s0, h2.bag⟩
  · show evSs G (evCl G F (k + 7)) ([b1, b2, b3, b4] ++ [b5]) ρ = _
    rw [qs_app, e1, th_nx, q_cons, e3, th_nx]
    rfl
  · have : j = 15 := by simpa using hj
    rw [this]
    exact h2.s15
/-! the last rows -/
def lf2e : Ex := .tup [(.val, (.lit (.int 256))), (.val, (.tup [])), (.val, (.lit (.str "low"))), (.val, (.lit (.int 65535))), (.val, (.tup [(.val, (.tup [(.val, (.lit (.int 1))), (.val, (.lit (.str "keep")))]))])), (.val, (.lit (.str "refuse")))]
def lf2 : Sm := .asg (.name 2) lf2e
def x1E : Ex := .tup [(.val, (.lit (.int 1))), (.val, (.lit (.int 255))), (.val, (.lit (.int 255))), (.val, (.lit (.int 0)))]
def x2E : Ex := .tup [(.val, (.lit (.int 1))), (.val, (.lit (.int 2))), (.val, (.lit (.int 0))), (.val, (.lit (.int 7))), (.val, (.lit (.int 8)))]
def w1E : Ex := .tup [(.val, (.lit (.int 4))), (.val, (.lit (.str "short")))]
def w2E : Ex := .tup [(.val, (.tup [(.val, (.lit (.int 1))), (.val, (.tup [(.val, (.lit (.int 7))), (.val, (.lit (.int 8)))]))]))]
def la : Ex := .call c_refusal [(.val, (.var 2)), (.val, x1E)]
def lb : Ex := .call c_read [(.val, (.var 2)), (.val, x2E)]
def lf3 : Sm := .ret (.ands [(.cmp .eq la w1E), (.cmp .eq lb w2E)])
def fixF : Fm := ⟨256, [], .low, 65535, [(1, .keep)], false⟩
theorem fix_ok : fixF.Ok := ⟨by decide, by decide, by decide, by decide, by decide, by decide, by decide, by decide, by decide⟩
theorem law_pure (ns : List Int) (hn : ns.length ≤ 63) : evCl G F 30 c_law [(false, .lst (ns.map PV.int))] = some (.fz (.bl true), []) := by
  have hbd : f_law.body = [.for_ (.name 1) (.range [(.val, (.bi .max [(.ref, (.lit (.int 1))), (.ref, (.bi .min [(.ref, (.lit (.int ((6 : Nat) : Int)))), (.ref, (.bi .len [(.ref, (.var 0))]))]))]))]) [.asg (.name 3) (.call c_law_bag [(.val, (.var 0)), (.val, (.var 1))]), .for_ (.name 4) (.ex (.tup [(.val, (.lit (.str "keep"))), (.val, (.lit (.str "check"))), (.val, (.lit (.str "skip")))])) tB], lf2, lf3] := rfl
  have hm : f_law.m = 16 := rfl
  have h0 : LO 16 [15] ns (startE 16 [(false, .lst (ns.map PV.int))]) := by
    refine ⟨rfl, ?_, ?_, rfl⟩
    · intro v hv
      have hs : startE 16 [(false, .lst (ns.map PV.int))] = [.fz (.lst (ns.map PV.int)), .un, .un, .un, .un, .un, .un, .un, .un, .un, .un, .un, .un, .un, .un, .un] := rfl
      rw [hs] at hv
      simp at hv
    · intro j hj
      have : j = 15 := by simpa using hj
      rw [this]
      rfl
  obtain ⟨ρ', e1, l1⟩ := law_outer (C := evCl G F 29) (m := 16) (us := [15]) (N := 6) (ns := ns) (aBody := [.asg (.name 3) (.call c_law_bag [(.val, (.var 0)), (.val, (.var 1))]), .for_ (.name 4) (.ex (.tup [(.val, (.lit (.str "keep"))), (.val, (.lit (.str "check"))), (.val, (.lit (.str "skip")))])) tB]) (by decide)
    (fun a ρ ha h => law_atE (C := evCl G F 29) (k := 28) (m := 16) (ib := 3) (it := 4) (Q := 1100) (us := [15]) (items := [.str "keep", .str "check", .str "skip"]) rfl (by decide) (by decide) (by decide) (by decide) (by decide) (by decide) (by decide) (by decide) (fun ρ => rfl) (fun x q ρ hx h4 h => by
      have : x = .str "keep" ∨ x = .str "check" ∨ x = .str "skip" := by simpa using hx
      rcases this with rfl | rfl | rfl
      · exact l_tB 22 ns .keep q ρ h4 h
      · exact l_tB 22 ns .check q ρ h4 h
      · exact l_tB 22 ns .skip q ρ h4 h) a ha h) h0
  have e2 : evS G (evCl G F 29) lf2 ρ' = some (.nx, ρ'.set 2 (.fz fixF.pv)) := by
    have he : evE G (evCl G F 29) lf2e ρ' = some (.fz fixF.pv, ρ') := rfl
    exact s_put he l1.fr (by rw [l1.len]; decide)
  generalize hρ2 : ρ'.set 2 (.fz fixF.pv) = ρ2 at e2
  have g2 : ρ2[2]? = some (.fz fixF.pv) := by rw [← hρ2]; exact List.getElem?_set_self (by rw [l1.len]; decide)
  have hx1 : evE G (evCl G F 29) x1E ρ2 = some (.fz (sg [1, 255, 255, 0]), ρ2) := rfl
  have hx2 : evE G (evCl G F 29) x2E ρ2 = some (.fz (sg [1, 2, 0, 7, 8]), ρ2) := rfl
  have r1 := e_refusal 23 fixF fix_ok [1, 255, 255, 0] (by decide) (by decide)
  have v1 : R.rf (rd fixF (firstS fixF) 0 [] [] [1, 255, 255, 0]) = .tup [.int 4, .str "short"] := rfl
  rw [v1] at r1
  have r2 := e_read 23 fixF fix_ok [1, 2, 0, 7, 8] (by decide) (by decide) [(1, [7, 8])] [] rfl
  have ea : evE G (evCl G F 29) la ρ2 = some (.fz (.tup [.int 4, .str "short"]), ρ2) := val_call (vs := [fixF.pv, sg [1, 255, 255, 0]]) (a1 (v_fz g2) rfl (a1 hx1 rfl a0)) r1
  have eb : evE G (evCl G F 29) lb ρ2 = some (.fz (.tup [.tup [.int 1, .tup [.int 7, .int 8]]]), ρ2) := val_call (vs := [fixF.pv, sg [1, 2, 0, 7, 8]]) (a1 (v_fz g2) rfl (a1 hx2 rfl a0)) r2
  have ew1 : evE G (evCl G F 29) w1E ρ2 = some (.fz (.tup [.int 4, .str "short"]), ρ2) := rfl
  have ew2 : evE G (evCl G F 29) w2E ρ2 = some (.fz (.tup [.tup [.int 1, .tup [.int 7, .int 8]]]), ρ2) := rfl
  have e3 : evS G (evCl G F 29) lf3 ρ2 = some (.rt (.fz (.bl true)), ρ2) := by
    have hc1 : cmpOp .eq (.tup [.int 4, .str "short"]) (.tup [.int 4, .str "short"]) = some true := by decide +kernel
    have hc2 : cmpOp .eq (.tup [.tup [.int 1, .tup [.int 7, .int 8]]]) (.tup [.tup [.int 1, .tup [.int 7, .int 8]]]) = some true := by decide +kernel
    have he1 := cmp_val (C := evCl G F 29) (op := .eq) (a := la) (b := w1E) (ρ := ρ2) (by rw [ea]; rfl) (by rw [ew1]; rfl) hc1
    have he2 := cmp_val (C := evCl G F 29) (op := .eq) (a := lb) (b := w2E) (ρ := ρ2) (by rw [eb]; rfl) (by rw [ew2]; rfl) hc2
    rw [lf3, s_ret, x_ands, x_and2, he1, andK_bl, if_pos rfl, x_and1, he2]
    rfl
  refine (u_law 29 _).trans ?_
  rw [fn_eq, if_pos (by rw [hm]; show 1 ≤ 16; omega), hm, hbd, q_cons, e1, th_nx, q_cons, e2, th_nx, q_cons, e3, th_rt]
  show (finE [(false, .lst (ns.map PV.int))] ρ2).map _ = _
  rw [fin_1 (by rw [← hρ2, List.length_set, l1.len]; decide)]
  rfl
end EV.Law
theorem PySem.Challenge.cw_bothreaders_k13_long_bodies_and_lengths_holds : PySem.Challenge.rw_bothreaders_k13_long_bodies_and_lengths.Holds :=
  EV.Law.holds_of EV.Law.law_pure
