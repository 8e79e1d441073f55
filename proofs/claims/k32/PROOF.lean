import PyProof.Rows.All
import Wide.All
import OpenK.AllK
import Wide.FinOn
import PyProof.EqAt
import PyProof.EqKinds
import PyProof.TupleCall
import HandS.ForMost
import HandS.Defaults
import HandS.Wide
import HandS.IsInst
import HandS.NoneIn
import HandS.Style
import HandS.TupAny
import HandS.Zip
import HandS.EndBits
import PySem.Challenge.RW_dripbell_k32_pairs_so_many_times
set_option Elab.async false
set_option linter.all false
set_option maxRecDepth 100000
set_option maxHeartbeats 2000000
/-! Pv1: plain data and an evaluator of a small language over it. -/
namespace Pv
open PySem

/-- plain data. lst: a list that is only read any more; own: a list that one holder has for itself (it may be changed); rol: a list that may only be read -/
inductive D where
  | non | bl (b : Bool) | int (i : Int) | str (x : Str)
  | tup (xs : List D) | lst (xs : List D) | own (xs : List D) | rol (xs : List D)
  deriving Inhabited

def strip : D → D
  | .own xs => .lst xs
  | d => d

abbrev En := List (Option D)

def LIM : Nat := 16777216

inductive Op where
  | add | sub | mul | fdiv | mod | pow | neg
  | eq | ne | lt | le | gt | ge | isN | notN | isB | notB | inn | nin
  | idx
  | len | max2 | min2 | absv | intv | sum | anyv | allv | tupv | lstv | isi (T : String)
  deriving DecidableEq

inductive ItK where
  | seq | range1 | range2 | zip | enum
  deriving DecidableEq

inductive Tg where
  | name (i : Nat) | tup (is : List Nat)

mutual
inductive Ex where
  | var (i : Nat)
  | lend (i : Nat)
  | con (d : D)
  | op (o : Op) (es : Exs)
  | slc (a lo hi : Exs)
  | tup (es : Exs)
  | lst (es : Exs)
  | ite (c : Tt) (a b : Ex)
  | and (a b : Ex)
  | or (a b : Ex)
  | not (a : Ex)
  | chain (o1 o2 : Op) (ab c : Exs)
  | call (f : Nat) (sh : Nat) (es ks : Exs)
  | comp (own : List Nat) (elt : Ex) (tg : Tg) (k : ItK) (es : Exs) (cond : Tt)
inductive Exs where
  | nil
  | cons (e : Ex) (es : Exs)
inductive Tt where
  | yes
  | val (e : Ex)
  | not (a : Tt)
  | and (a b : Tt)
  | or (a b : Tt)
end

mutual
inductive Sm where
  | asg (tg : Tg) (e : Ex)
  | par (is : List Nat) (es : Exs)
  | aug (i : Nat) (o : Op) (e : Ex)
  | put (i : Nat) (k e : Ex)
  | app (i : Nat) (e : Ex)
  | expr (e : Ex)
  | ret (e : Ex)
  | retn
  | ite (c : Tt) (t e : Sms)
  | loop (tg : Tg) (k : ItK) (es : Exs) (body : Sms)
  | whl (c : Tt) (body : Sms)
  | pass
  | brk
  | cnt
  | never
inductive Sms where
  | nil
  | cons (s : Sm) (ss : Sms)
end

/-! ### primitive operations on plain data -/
mutual
def toPy : Nat → D → Option PyData
  | _, .non => some .none
  | _, .bl b => some (.bool b)
  | _, .int i => some (.int i)
  | _, .str x => some (.str x)
  | 0, .tup _ => none
  | n + 1, .tup xs => (toPys n xs).map .tuple
  | 0, .lst _ => none
  | n + 1, .lst xs => (toPys n xs).map .list
  | 0, .rol _ => none
  | n + 1, .rol xs => (toPys n xs).map .list
  | _, .own _ => none
def toPys : Nat → List D → Option (List PyData)
  | _, [] => some []
  | n, x :: xs => (toPy n x).bind fun a => (toPys n xs).map fun as => a :: as
end

def deq (x y : D) : Option Bool := (toPy 60 x).bind fun a => (toPy 60 y).map fun b => PyData.eqv a b

def mulOk (i j : Int) : Bool :=
  decide (-(2 ^ 64) < i ∧ i < 2 ^ 64) || decide (-(2 ^ 64) < j ∧ j < 2 ^ 64) || decide (i.natAbs.log2 + j.natAbs.log2 < 1000000)

def flat : D → Bool
  | .non => true | .bl _ => true | .int _ => true | .str _ => true | _ => false

def feq : D → D → Bool
  | .non, .non => true
  | .bl a, .bl b => a == b
  | .int i, .int j => i == j
  | .str x, .str y => x == y
  | .int i, .bl b => i == (if b then 1 else 0)
  | .bl b, .int i => (if b then 1 else 0) == i
  | _, _ => false

def ixN (n : Nat) (i : Int) : Option Nat := if 0 ≤ i then (if i < n then some i.toNat else none) else if -(n : Int) ≤ i then some (i + n).toNat else none
def atI {α : Type} (xs : List α) (i : Int) : Option α := (ixN xs.length i).bind fun j => xs[j]?
def sIx (n d : Nat) : Option Int → Nat
  | none => d
  | some v => if v < 0 then (v + (n : Int)).toNat else min v.toNat n
def cut {α : Type} (xs : List α) (lo hi : Option Int) : List α := (xs.drop (sIx xs.length 0 lo)).take (sIx xs.length xs.length hi - sIx xs.length 0 lo)

def dInts : List D → Option (List Int)
  | [] => some []
  | .int i :: r => (dInts r).map fun is => i :: is
  | _ :: _ => none
def dBools : List D → Option (List Bool)
  | [] => some []
  | .bl b :: r => (dBools r).map fun bs => b :: bs
  | _ :: _ => none

def typ : D → String
  | .non => "NoneType" | .bl _ => "bool" | .int _ => "int" | .str _ => "str" | .tup _ => "tuple" | .lst _ => "list" | .own _ => "list" | .rol _ => "list"

/-- type a, asked of class b: among these alone -/
def isiB (a b : String) : Option Bool :=
  if b = "int" then some (a = "int" || a = "bool")
  else if b = "bool" then some (a = "bool")
  else if b = "str" then some (a = "str")
  else if b = "tuple" then some (a = "tuple")
  else if b = "list" then some (a = "list")
  else none

def sliceOf : D → Option Int → Option Int → Option D
  | .lst xs, lo, hi => some (.own (cut xs lo hi))
  | .rol xs, lo, hi => some (.own (cut xs lo hi))
  | .tup xs, lo, hi => some (.tup (cut xs lo hi))
  | _, _, _ => none
def part : List D → Option (Option Int)
  | [] => some none
  | [.int i] => some (some i)
  | _ => none
def slice1 (ds : List D) (lo hi : Option Int) : Option D := match ds with
  | [x] => sliceOf x lo hi
  | _ => none
def pAdd : D → D → Option D
  | .int i, .int j => some (.int (i + j))
  | .lst xs, .lst ys => if xs.length + ys.length ≤ LIM then some (.own (xs ++ ys)) else none
  | .tup xs, .tup ys => if xs.length + ys.length ≤ LIM then some (.tup (xs ++ ys)) else none
  | _, _ => none
def pSub : D → D → Option D
  | .int i, .int j => some (.int (i - j))
  | _, _ => none
def pMul : D → D → Option D
  | .int i, .int j => if mulOk i j then some (.int (i * j)) else none
  | .lst xs, .int k => if -(2 ^ 63) ≤ k ∧ k < 2 ^ 63 ∧ xs.length * k.toNat ≤ LIM then some (.own (List.replicate k.toNat xs).flatten) else none
  | _, _ => none
def pDiv : D → D → Option D
  | .int i, .int j => if 0 < j ∧ j.natAbs.log2 < 9000 then some (.int (i / j)) else none
  | _, _ => none
def pMod : D → D → Option D
  | .int i, .int j => if 0 < j then some (.int (i % j)) else none
  | _, _ => none
def pPow : D → D → Option D
  | .int i, .int j => if 0 ≤ j ∧ j ≤ 1000000 ∧ i.natAbs < 2 ^ 64 then some (.int (i ^ j.toNat)) else none
  | _, _ => none
def pNeg : D → Option D
  | .int i => some (.int (-i))
  | _ => none
def pCmp (p : Int → Int → Bool) : D → D → Option D
  | .int i, .int j => some (.bl (p i j))
  | _, _ => none
def isNon : D → Bool
  | .non => true
  | _ => false
def pIsB (neg : Bool) : D → D → Option D
  | .bl a, .bl b => some (.bl (if neg then !decide (a = b) else decide (a = b)))
  | _, _ => none
def pIn (neg : Bool) (x : D) : D → Option D
  | .lst ys => if flat x && ys.all flat then some (.bl (if neg then !(ys.any fun y => feq y x) else ys.any fun y => feq y x)) else none
  | .tup ys => if flat x && ys.all flat then some (.bl (if neg then !(ys.any fun y => feq y x) else ys.any fun y => feq y x)) else none
  | _ => none
def pIdx : D → D → Option D
  | .lst xs, .int i => atI xs i
  | .rol xs, .int i => atI xs i
  | .tup xs, .int i => atI xs i
  | _, _ => none
def pLen : D → Option D
  | .lst xs => some (.int xs.length)
  | .rol xs => some (.int xs.length)
  | .tup xs => some (.int xs.length)
  | .str x => some (.int x.length)
  | _ => none
def pInt2 (f : Int → Int → Int) : D → D → Option D
  | .int i, .int j => some (.int (f i j))
  | _, _ => none
def pAbs : D → Option D
  | .int i => some (.int (if i < 0 then -i else i))
  | _ => none
def pInt : D → Option D
  | .int i => some (.int i)
  | .bl b => some (.int (if b then 1 else 0))
  | _ => none
def pSum : D → Option D
  | .lst xs => (dInts xs).map fun is => .int is.sum
  | _ => none
def pAny : D → Option D
  | .lst xs => (dBools xs).map fun bs => .bl (bs.any id)
  | _ => none
def pAll : D → Option D
  | .lst xs => (dBools xs).map fun bs => .bl (bs.all id)
  | _ => none
def pTup : D → Option D
  | .lst xs => some (.tup xs)
  | .tup xs => some (.tup xs)
  | _ => none
def pLst : D → Option D
  | .lst xs => some (.own xs)
  | .rol xs => some (.own xs)
  | .tup xs => some (.own xs)
  | _ => none
def max2 (i j : Int) : Int := if j > i then j else i
def min2 (i j : Int) : Int := if j < i then j else i

def prim : Op → List D → Option D
  | .add, [x, y] => pAdd x y
  | .sub, [x, y] => pSub x y
  | .mul, [x, y] => pMul x y
  | .fdiv, [x, y] => pDiv x y
  | .mod, [x, y] => pMod x y
  | .pow, [x, y] => pPow x y
  | .neg, [x] => pNeg x
  | .eq, [x, y] => (deq x y).map .bl
  | .ne, [x, y] => (deq x y).map fun b => .bl (!b)
  | .lt, [x, y] => pCmp (fun i j => decide (i < j)) x y
  | .le, [x, y] => pCmp (fun i j => decide (i ≤ j)) x y
  | .gt, [x, y] => pCmp (fun i j => decide (j < i)) x y
  | .ge, [x, y] => pCmp (fun i j => decide (j ≤ i)) x y
  | .isN, [x] => some (.bl (isNon x))
  | .notN, [x] => some (.bl (!isNon x))
  | .isB, [x, y] => pIsB false x y
  | .notB, [x, y] => pIsB true x y
  | .inn, [x, y] => pIn false x y
  | .nin, [x, y] => pIn true x y
  | .idx, [x, y] => pIdx x y
  | .len, [x] => pLen x
  | .max2, [x, y] => pInt2 max2 x y
  | .min2, [x, y] => pInt2 min2 x y
  | .absv, [x] => pAbs x
  | .intv, [x] => pInt x
  | .sum, [x] => pSum x
  | .anyv, [x] => pAny x
  | .allv, [x] => pAll x
  | .tupv, [x] => pTup x
  | .lstv, [x] => pLst x
  | .isi T, [x] => (isiB (typ x) T).map .bl
  | _, _ => none

def truth : D → Option Bool
  | .non => some false
  | .bl b => some b
  | .int i => some (i != 0)
  | .str x => some ((x.length : Int) != 0)
  | .tup xs => some (!xs.isEmpty)
  | .lst xs => some (!xs.isEmpty)
  | .rol xs => some (!xs.isEmpty)
  | .own xs => some (!xs.isEmpty)

def rangeL (lo : Int) (n : Nat) : List D := (List.range n).map fun (k : Nat) => D.int (lo + (k : Int))

/-- what is walked -/
def iter : ItK → List D → Option (List D)
  | .seq, [.lst xs] => some xs
  | .seq, [.rol xs] => some xs
  | .seq, [.tup xs] => some xs
  | .range1, [.int j] => if -(2 ^ 62) ≤ j ∧ j < 2 ^ 62 ∧ j.toNat ≤ LIM then some (rangeL 0 j.toNat) else none
  | .range2, [.int i, .int j] => if -(2 ^ 62) ≤ i ∧ i < 2 ^ 62 ∧ -(2 ^ 62) ≤ j ∧ j < 2 ^ 62 ∧ (j - i).toNat ≤ LIM then some (rangeL i (j - i).toNat) else none
  | .zip, [.lst xs, .lst ys] => some ((xs.zip ys).map fun p => .tup [p.1, p.2])
  | .zip, [.tup xs, .tup ys] => some ((xs.zip ys).map fun p => .tup [p.1, p.2])
  | .enum, [.lst xs] => some (((List.range xs.length).zip xs).map fun (p : Nat × D) => D.tup [.int (p.1 : Int), p.2])
  | _, _ => none

/-! ### slots -/
/-- a slot read for good: a list that was one's own is nobody's any more -/
def getF (i : Nat) (env : En) : Option (D × En) := match env[i]? with
  | some (some d) => some (strip d, env.set i (some (strip d)))
  | _ => none
/-- a slot looked at -/
def peek (i : Nat) (env : En) : Option D := match env[i]? with
  | some (some d) => some (strip d)
  | _ => none
def setMany : List Nat → List D → En → Option En
  | [], [], env => some env
  | i :: is, d :: ds, env => setMany is ds (env.set i (some d))
  | _, _, _ => none
/-- a target takes a value -/
def bind1 (tg : Tg) (d : D) (env : En) : Option En := match tg, d with
  | .name i, d => some (env.set i (some d))
  | .tup is, .tup ds => setMany is ds env
  | .tup is, .lst ds => setMany is ds env
  | .tup is, .own ds => setMany is ds env
  | _, _ => none
def unown (own : List Nat) (env : En) : En := match own with
  | [] => env
  | i :: is => let e := unown is env; match e[i]? with
    | some (some (.own xs)) => e.set i (some (.lst xs))
    | _ => e
def wipeE (own : List Nat) (env : En) : En := match own with
  | [] => env
  | i :: is => (wipeE is env).set i none
def restore (own : List Nat) (old env : En) : En := match own with
  | [] => env
  | i :: is => (restore is old env).set i ((old[i]?).join)

/-- operands: a name is asked for its value behind all of them -/
abbrev Opd := Sum Nat D
def settle (env : En) : List Opd → Option (List D)
  | [] => some []
  | .inl i :: r => (peek i env).bind fun d => (settle env r).map fun ds => d :: ds
  | .inr d :: r => (settle env r).map fun ds => strip d :: ds

/-- f(e, ..): how a written call comes to the parameters: places among the written values, or a constant -/
structure Shape where
  ord : List (Sum Nat D)
/-- a def -/
structure Fn where
  np : Nat
  slots : Nat
  io : List Nat
  shapes : List Shape
  body : Sms

abbrev Rn := Nat → List D → Option (D × List (List D))

/-- the values of the parameters that a call hands in -/
def arrange (vals : List (Sum Nat D)) : List (Sum Nat D) → Option (List (Sum Nat D))
  | [] => some []
  | .inl k :: r => (vals[k]?).bind fun v => (arrange vals r).map fun vs => v :: vs
  | .inr d :: r => (arrange vals r).map fun vs => .inr d :: vs
/-- the arguments' data: a parameter that is lent (io) takes the list of a slot -/
def argsD (env : En) (io : List Nat) : Nat → List (Sum Nat D) → Option (List D)
  | _, [] => some []
  | k, .inl i :: r => if k ∈ io then
      match env[i]? with
      | some (some (.own xs)) => (argsD env io (k + 1) r).map fun ds => .own xs :: ds
      | _ => none
    else none
  | k, .inr d :: r => if k ∈ io then none else (argsD env io (k + 1) r).map fun ds => d :: ds
/-- the slots that are lent -/
def lent (as : List (Sum Nat D)) : List Nat → Option (List Nat)
  | [] => some []
  | k :: r => match as[k]? with
    | some (.inl i) => (lent as r).map fun is => i :: is
    | _ => none
def giveBack : List Nat → List (List D) → En → Option En
  | [], [], env => some env
  | i :: is, xs :: r, env => giveBack is r (env.set i (some (.own xs)))
  | _, _, _ => none

inductive Flow where
  | nx | rt (d : D) | bk | ct

def forL (f : D → En → Option (Flow × En)) : List D → En → Option (Flow × En)
  | [], env => some (.nx, env)
  | d :: ds, env => (f d env).bind fun r => match r with
    | (.nx, e) => forL f ds e
    | (.ct, e) => forL f ds e
    | (.bk, e) => some (.nx, e)
    | (.rt v, e) => some (.rt v, e)
def whlL (c : En → Option (Bool × En)) (f : En → Option (Flow × En)) : Nat → En → Option (Flow × En)
  | 0, _ => none
  | n + 1, env => (c env).bind fun r => match r with
    | (false, e) => some (.nx, e)
    | (true, e) => (f e).bind fun q => match q with
      | (.nx, e2) => whlL c f n e2
      | (.ct, e2) => whlL c f n e2
      | (.bk, e2) => some (.nx, e2)
      | (.rt v, e2) => some (.rt v, e2)
def compL (own : List Nat) (f : D → En → Option (Option D × En)) : List D → En → Option (List D × En)
  | [], env => some ([], env)
  | d :: ds, env => (f d (wipeE own env)).bind fun r => (compL own f ds r.2).map fun q => ((match r.1 with | some v => v :: q.1 | none => q.1), q.2)

section
variable (tab : Nat → Option Fn) (R : Rn) (fu : Nat)
mutual
def ev : Ex → En → Option (D × En)
  | .var i, env => getF i env
  | .con d, env => some (d, env)
  | .op o es, env => (evo es env).bind fun r => (settle r.2 r.1).bind fun ds => (prim o ds).map fun d => (d, r.2)
  | .slc a lo hi, env => (evo a env).bind fun r => (evs lo r.2).bind fun l => (evs hi l.2).bind fun h => (part l.1).bind fun p => (part h.1).bind fun q => (settle h.2 r.1).bind fun ds => (slice1 ds p q).map fun d => (d, h.2)
  | .tup es, env => (evs es env).map fun r => (.tup r.1, r.2)
  | .lst es, env => (evs es env).map fun r => (.own r.1, r.2)
  | .ite c a b, env => (evT c env).bind fun r => if r.1 then ev a r.2 else ev b r.2
  | .and a b, env => (ev a env).bind fun r => match r.1 with
    | .bl true => ev b r.2
    | .bl false => some (.bl false, r.2)
    | _ => none
  | .or a b, env => (ev a env).bind fun r => match r.1 with
    | .bl false => ev b r.2
    | .bl true => some (.bl true, r.2)
    | _ => none
  | .not a, env => (ev a env).bind fun r => match r.1 with
    | .bl b => some (.bl (!b), r.2)
    | _ => none
  | .chain o1 o2 ab c, env => (evo ab env).bind fun r => (settle r.2 r.1).bind fun ds => (prim o1 ds).bind fun d => match d with
    | .bl false => some (.bl false, r.2)
    | .bl true => (evo c r.2).bind fun q => (settle q.2 (r.1.drop 1 ++ q.1)).bind fun es => (prim o2 es).bind fun d2 => match d2 with
      | .bl b2 => some (.bl b2, q.2)
      | _ => none
    | _ => none
  | .lend _, _ => none
  | .call f sh es ks, env => (tab f).bind fun fn => (fn.shapes[sh]?).bind fun shp => (evc es env).bind fun r => (evc ks r.2).bind fun r2 => (arrange (r.1 ++ r2.1) shp.ord).bind fun as =>
      (argsD r2.2 fn.io 0 as).bind fun ds => (lent as fn.io).bind fun ls => if ls.Nodup then (R f ds).bind fun q => (giveBack ls q.2 r2.2).map fun e => (q.1, e) else none
  | .comp own elt tg k es cond, env => (evs es env).bind fun r => (iter k r.1).bind fun items =>
      (compL own (fun d e => (bind1 tg d e).bind fun e1 => (evT cond e1).bind fun b => if b.1 then (ev elt b.2).map fun v => (some (strip v.1), v.2) else some (none, b.2)) items (unown own r.2)).map fun q =>
        (.own q.1, restore own (unown own r.2) q.2)
def evo : Exs → En → Option (List Opd × En)
  | .nil, env => some ([], env)
  | .cons (.var i) es, env => (peek i env).bind fun _ => (evo es env).map fun r => (.inl i :: r.1, r.2)
  | .cons e es, env => (ev e env).bind fun q => (evo es q.2).map fun r => (.inr q.1 :: r.1, r.2)
def evs : Exs → En → Option (List D × En)
  | .nil, env => some ([], env)
  | .cons e es, env => (ev e env).bind fun q => (evs es q.2).map fun r => (strip q.1 :: r.1, r.2)
def evc : Exs → En → Option (List Opd × En)
  | .nil, env => some ([], env)
  | .cons (.lend i) es, env => (peek i env).bind fun _ => (evc es env).map fun r => (.inl i :: r.1, r.2)
  | .cons e es, env => (ev e env).bind fun q => (evc es q.2).map fun r => (.inr (strip q.1) :: r.1, r.2)
def evT : Tt → En → Option (Bool × En)
  | .yes, env => some (true, env)
  | .not a, env => (evT a env).map fun r => (!r.1, r.2)
  | .and a b, env => (evT a env).bind fun r => if r.1 then evT b r.2 else some (false, r.2)
  | .or a b, env => (evT a env).bind fun r => if r.1 then some (true, r.2) else evT b r.2
  | .val (.var i), env => (peek i env).bind fun d => (truth d).map fun b => (b, env)
  | .val e, env => (ev e env).bind fun r => (truth r.1).map fun b => (b, r.2)
end

mutual
def exe : Sm → En → Option (Flow × En)
  | .asg tg e, env => (ev tab R e env).bind fun r => (bind1 tg r.1 r.2).map fun e2 => (.nx, e2)
  | .par is es, env => (evs tab R es env).bind fun r => (setMany is r.1 r.2).map fun e2 => (.nx, e2)
  | .aug i o e, env => (ev tab R e env).bind fun r => (peek i env).bind fun x => (prim o [x, r.1]).bind fun d => match x, d with
    | .int _, .int z => some (.nx, r.2.set i (some (.int z)))
    | _, _ => none
  | .put i k e, env => (ev tab R e env).bind fun r => (peek i r.2).bind fun _ => (ev tab R k r.2).bind fun q => match q.1, q.2[i]? with
    | .int z, some (some (.own xs)) => (ixN xs.length z).map fun j => (.nx, q.2.set i (some (.own (xs.set j (strip r.1)))))
    | _, _ => none
  | .app i e, env => (peek i env).bind fun l => match l with
    | .lst _ => (ev tab R e env).bind fun r => match r.2[i]? with
      | some (some (.own xs)) => if xs.length < LIM then some (.nx, r.2.set i (some (.own (xs ++ [strip r.1])))) else none
      | _ => none
    | _ => none
  | .expr e, env => (ev tab R e env).map fun r => (.nx, r.2)
  | .ret (.var i), env => match env[i]? with
    | some (some d) => some (.rt d, env.set i none)
    | _ => none
  | .ret e, env => (ev tab R e env).map fun r => (.rt r.1, r.2)
  | .retn, env => some (.rt .non, env)
  | .ite c t e, env => (evT tab R c env).bind fun r => if r.1 then exes t r.2 else exes e r.2
  | .loop tg k es body, env => (evs tab R es env).bind fun r => (iter k r.1).bind fun items => forL (fun d e => (bind1 tg d e).bind fun e1 => exes body e1) items r.2
  | .whl c body, env => whlL (fun e => evT tab R c e) (fun e => exes body e) fu env
  | .pass, env => some (.nx, env)
  | .brk, env => some (.bk, env)
  | .cnt, env => some (.ct, env)
  | .never, _ => none
def exes : Sms → En → Option (Flow × En)
  | .nil, env => some (.nx, env)
  | .cons s ss, env => (exe s env).bind fun r => match r.1 with
    | .nx => exes ss r.2
    | f => some (f, r.2)
end
end

/-- the lists that were lent, as they are left -/
def outs (env : En) : List Nat → Option (List (List D))
  | [] => some []
  | i :: is => match env[i]? with
    | some (some (.own xs)) => (outs env is).map fun r => xs :: r
    | _ => none
def enter (fn : Fn) (ds : List D) : En := ds.map some ++ List.replicate (fn.slots - ds.length) none
def runFn (tab : Nat → Option Fn) (R : Rn) (fu : Nat) (fn : Fn) (ds : List D) : Option (D × List (List D)) :=
  if ds.length = fn.np then (exes tab R fu fn.body (enter fn ds)).bind fun r => match r.1 with
    | .rt d => (outs r.2 fn.io).map fun o => (d, o)
    | .nx => (outs r.2 fn.io).map fun o => (.non, o)
    | _ => none
  else none
def run (tab : Nat → Option Fn) (fu : Nat) : Nat → Rn
  | 0, _, _ => none
  | n + 1, f, ds => (tab f).bind fun fn => runFn tab (run tab fu n) fu fn ds
end Pv

set_option Elab.async false
set_option linter.all false
set_option maxRecDepth 100000
set_option maxHeartbeats 2000000
/-! Pv2: how plain data lies in the layer's heap; who owns which list. -/
namespace Pv
open PySem PySem.Spec
open L2 (V Hp HO VK TE TT TA TS TG TGs TI Ends Cx Inv PE PT PW PA PS PSs PG PGs PI SqL SqT Rd upd upd_same upd_ne Vals RelV Sp XK It)
abbrev Frag := PySem.W.Frag
abbrev Sl := L2.St

theorem LIM_eq : LIM = sizeLine := by rw [sizeLine_eq]; rfl

/-- a tuple, a list of the written part -/
def KTup (K : Frag) (a : Addr) (vs : List V) : Prop := ∃ (o : Obj) (its : Array Value) (n : Nat), K.lookup a = some o ∧ o.cls = .type "tuple" ∧ o.data = .seq its n ∧ its.size ≤ sizeLine ∧ Vals vs its.toList
def KLst (K : Frag) (a : Addr) (vs : List V) : Prop := ∃ (o : Obj) (its : Array Value) (n : Nat), K.lookup a = some o ∧ o.cls = .type "list" ∧ o.dict = none ∧ o.data = .seq its n ∧ its.size ≤ sizeLine ∧ Vals vs its.toList

mutual
inductive Rep (K : Frag) (O : Addr → Prop) (H : Hp) : V → D → Prop
  | non : Rep K O H .non .non
  | bl (b : Bool) : Rep K O H (.bl b) (.bl b)
  | int (i : Int) : Rep K O H (.int i) (.int i)
  | str {x : Str} (h : x.length ≤ sizeLine) (h2 : PySem.PyData.strOk x = true) : Rep K O H (.str x) (.str x)
  | tup {a : Addr} {vs : List V} {ds : List D} (h : H a = some (.tup vs)) (ho : ¬ O a) (hz : vs.length ≤ sizeLine) (r : Reps K O H vs ds) : Rep K O H (.ref a) (.tup ds)
  | tupK {a : Addr} {vs : List V} {ds : List D} (h : KTup K a vs) (r : Reps K O H vs ds) : Rep K O H (.ref a) (.tup ds)
  | lst {a : Addr} {vs : List V} {ds : List D} (h : H a = some (.lst vs)) (ho : ¬ O a) (hz : vs.length ≤ sizeLine) (r : Reps K O H vs ds) : Rep K O H (.ref a) (.lst ds)
  | rol {a : Addr} {vs : List V} {ds : List D} (h : (∃ o, H a = some (.frz o (.lst vs))) ∧ ¬ O a ∨ KLst K a vs) (hz : vs.length ≤ sizeLine) (r : Reps K O H vs ds) : Rep K O H (.ref a) (.rol ds)
inductive Reps (K : Frag) (O : Addr → Prop) (H : Hp) : List V → List D → Prop
  | nil : Reps K O H [] []
  | cons {v : V} {d : D} {vs : List V} {ds : List D} (h : Rep K O H v d) (t : Reps K O H vs ds) : Reps K O H (v :: vs) (d :: ds)
end

def Eo (σ : Sl) (env : En) (a : Addr) : Prop := ∃ (i : Nat) (xs : List D), env[i]? = some (some (.own xs)) ∧ σ[i]? = some (some (.ref a))

def Keeps (O : Addr → Prop) (H : Hp) (O' : Addr → Prop) (H' : Hp) : Prop := ∀ a o, H a = some o → ¬ O a → H' a = some o ∧ ¬ O' a
theorem Keeps.refl {O : Addr → Prop} {H : Hp} : Keeps O H O H := fun _ _ h n => ⟨h, n⟩
theorem Keeps.trans {O O1 O2 : Addr → Prop} {H H1 H2 : Hp} (x : Keeps O H O1 H1) (y : Keeps O1 H1 O2 H2) : Keeps O H O2 H2 := fun a o h n => y a o (x a o h n).1 (x a o h n).2

mutual
theorem Rep.ext {K : Frag} {O O' : Addr → Prop} {H H' : Hp} (x : Keeps O H O' H') : ∀ {v : V} {d : D}, Rep K O H v d → Rep K O' H' v d
  | _, _, .non => .non
  | _, _, .bl b => .bl b
  | _, _, .int i => .int i
  | _, _, .str h h2 => .str h h2
  | _, _, .tup h ho hz r => .tup (x _ _ h ho).1 (x _ _ h ho).2 hz (Reps.ext x r)
  | _, _, .tupK h r => .tupK h (Reps.ext x r)
  | _, _, .lst h ho hz r => .lst (x _ _ h ho).1 (x _ _ h ho).2 hz (Reps.ext x r)
  | _, _, .rol h hz r => .rol (match h with | .inl ⟨⟨o, e⟩, ho⟩ => .inl ⟨⟨o, (x _ _ e ho).1⟩, (x _ _ e ho).2⟩ | .inr k => .inr k) hz (Reps.ext x r)
theorem Reps.ext {K : Frag} {O O' : Addr → Prop} {H H' : Hp} (x : Keeps O H O' H') : ∀ {vs : List V} {ds : List D}, Reps K O H vs ds → Reps K O' H' vs ds
  | _, _, .nil => .nil
  | _, _, .cons h t => .cons (Rep.ext x h) (Reps.ext x t)
end

theorem Reps.length {K : Frag} {O : Addr → Prop} {H : Hp} : ∀ {vs : List V} {ds : List D}, Reps K O H vs ds → vs.length = ds.length
  | _, _, .nil => rfl
  | _, _, .cons _ t => congrArg Nat.succ (Reps.length t)
theorem Reps.get {K : Frag} {O : Addr → Prop} {H : Hp} : ∀ {vs : List V} {ds : List D} {i : Nat} {d : D}, Reps K O H vs ds → ds[i]? = some d → ∃ v, vs[i]? = some v ∧ Rep K O H v d
  | _, _, 0, _, .cons h _, e => by
    simp at e; subst e; exact ⟨_, rfl, h⟩
  | _, _, i + 1, d, .cons _ t, e => by
    obtain ⟨v, h1, h2⟩ := Reps.get (i := i) t (by simpa using e)
    exact ⟨v, by simpa using h1, h2⟩
theorem Reps.getV {K : Frag} {O : Addr → Prop} {H : Hp} : ∀ {vs : List V} {ds : List D} {i : Nat} {v : V}, Reps K O H vs ds → vs[i]? = some v → ∃ d, ds[i]? = some d ∧ Rep K O H v d
  | _, _, 0, _, .cons h _, e => by
    simp at e; subst e; exact ⟨_, rfl, h⟩
  | _, _, i + 1, d, .cons _ t, e => by
    obtain ⟨v, h1, h2⟩ := Reps.getV (i := i) t (by simpa using e)
    exact ⟨v, by simpa using h1, h2⟩
theorem Reps.append {K : Frag} {O : Addr → Prop} {H : Hp} : ∀ {vs ws : List V} {ds es : List D}, Reps K O H vs ds → Reps K O H ws es → Reps K O H (vs ++ ws) (ds ++ es)
  | _, _, _, _, .nil, s => s
  | _, _, _, _, .cons r t, s => .cons r (Reps.append t s)
theorem Reps.take {K : Frag} {O : Addr → Prop} {H : Hp} : ∀ (n : Nat) {vs : List V} {ds : List D}, Reps K O H vs ds → Reps K O H (vs.take n) (ds.take n)
  | 0, _, _, _ => .nil
  | _ + 1, _, _, .nil => .nil
  | n + 1, _, _, .cons r t => .cons r (Reps.take n t)
theorem Reps.drop {K : Frag} {O : Addr → Prop} {H : Hp} : ∀ (n : Nat) {vs : List V} {ds : List D}, Reps K O H vs ds → Reps K O H (vs.drop n) (ds.drop n)
  | 0, _, _, r => r
  | _ + 1, _, _, .nil => .nil
  | n + 1, _, _, .cons _ t => Reps.drop n t
theorem Reps.set {K : Frag} {O : Addr → Prop} {H : Hp} {v : V} {d : D} (r : Rep K O H v d) : ∀ (n : Nat) {vs : List V} {ds : List D}, Reps K O H vs ds → Reps K O H (vs.set n v) (ds.set n d)
  | _, _, _, .nil => .nil
  | 0, _, _, .cons _ t => .cons r t
  | n + 1, _, _, .cons q t => .cons q (Reps.set r n t)
theorem Reps.rep {K : Frag} {O : Addr → Prop} {H : Hp} {vs : List V} {ds : List D} (r : Reps K O H vs ds) : ∀ n : Nat, Reps K O H (List.replicate n vs).flatten (List.replicate n ds).flatten
  | 0 => .nil
  | n + 1 => by simpa [List.replicate_succ] using r.append (Reps.rep r n)

/-- what the slots hold -/
structure EnvRel (K : Frag) (O : Addr → Prop) (H : Hp) (σ : Sl) (env : En) : Prop where
  len : env.length = σ.length
  sh : ∀ (i : Nat) (d : D), env[i]? = some (some d) → (∀ xs, d ≠ .own xs) → ∃ v, σ[i]? = some (some v) ∧ Rep K O H v d
  ow : ∀ (i : Nat) (xs : List D), env[i]? = some (some (.own xs)) → ∃ a vs, σ[i]? = some (some (.ref a)) ∧ O a ∧ H a = some (.lst vs) ∧ vs.length ≤ sizeLine ∧ Reps K O H vs xs
  ne : ∀ (i j : Nat) (xs ys : List D) (a : Addr), env[i]? = some (some (.own xs)) → env[j]? = some (some (.own ys)) → σ[i]? = some (some (.ref a)) → σ[j]? = some (some (.ref a)) → i = j
  ohp : ∀ a, O a → H a ≠ none

/-- from one state to a later one -/
structure Step (O : Addr → Prop) (H : Hp) (σ : Sl) (env : En) (O' : Addr → Prop) (H' : Hp) (σ' : Sl) (env' : En) : Prop where
  ext : Keeps O H O' H'
  frm : ∀ a, O a → ¬ Eo σ env a → O' a ∧ H' a = H a
  dom : ∀ a, H a ≠ none → H' a ≠ none
  new : ∀ a, Eo σ' env' a → Eo σ env a ∨ H a = none
theorem Step.refl {O : Addr → Prop} {H : Hp} {σ : Sl} {env : En} : Step O H σ env O H σ env := ⟨Keeps.refl, fun _ h _ => ⟨h, rfl⟩, fun _ h => h, fun _ h => .inl h⟩
theorem Step.trans {O O1 O2 : Addr → Prop} {H H1 H2 : Hp} {σ σ1 σ2 : Sl} {env env1 env2 : En} (ohp : ∀ a, O a → H a ≠ none) (x : Step O H σ env O1 H1 σ1 env1) (y : Step O1 H1 σ1 env1 O2 H2 σ2 env2) : Step O H σ env O2 H2 σ2 env2 where
  ext := x.ext.trans y.ext
  frm := fun a h n => by
    obtain ⟨h1, e1⟩ := x.frm a h n
    have n1 : ¬ Eo σ1 env1 a := fun z => (x.new a z).elim n (ohp a h)
    obtain ⟨h2, e2⟩ := y.frm a h1 n1
    exact ⟨h2, e2.trans e1⟩
  dom := fun a h => y.dom a (x.dom a h)
  new := fun a h => by
    rcases y.new a h with z | z
    · exact x.new a z
    · exact .inr (Classical.byContradiction fun q => x.dom a q z)

/-- a list that the expression hands on, nobody else's -/
def Tmp (K : Frag) (O : Addr → Prop) (H : Hp) (σ : Sl) (env : En) (v : V) (xs : List D) : Prop :=
  ∃ a vs, v = .ref a ∧ O a ∧ ¬ Eo σ env a ∧ H a = some (.lst vs) ∧ vs.length ≤ sizeLine ∧ Reps K O H vs xs
def VRep (K : Frag) (O : Addr → Prop) (H : Hp) (σ : Sl) (env : En) (v : V) (d : D) : Prop := match d with
  | .own xs => Tmp K O H σ env v xs
  | d => Rep K O H v d
theorem VRep.sh {K : Frag} {O : Addr → Prop} {H : Hp} {σ : Sl} {env : En} {v : V} {d : D} (h : Rep K O H v d) (n : ∀ xs, d ≠ .own xs) : VRep K O H σ env v d := by
  cases d <;> first | exact h | exact absurd rfl (n _)
theorem VRep.rep {K : Frag} {O : Addr → Prop} {H : Hp} {σ : Sl} {env : En} {v : V} {d : D} (h : VRep K O H σ env v d) (n : ∀ xs, d ≠ .own xs) : Rep K O H v d := by
  cases d <;> first | exact h | exact absurd rfl (n _)
def Fresh (H : Hp) (v : V) (d : D) : Prop := ∀ xs a, d = .own xs → v = .ref a → H a = none
theorem Rep.notOwn {K : Frag} {O : Addr → Prop} {H : Hp} {v : V} {xs : List D} (h : Rep K O H v (.own xs)) : False := by cases h

theorem VRep.step {K : Frag} {O O' : Addr → Prop} {H H' : Hp} {σ : Sl} {env env' : En} {v : V} {d : D} (h : VRep K O H σ env v d) (s : Step O H σ env O' H' σ env') : VRep K O' H' σ env' v d := by
  by_cases n : ∃ xs, d = .own xs
  · obtain ⟨xs, rfl⟩ := n
    obtain ⟨a, vs, e, o, ne, ha, hz, r⟩ := h
    obtain ⟨o', e'⟩ := s.frm a o ne
    exact ⟨a, vs, e, o', fun z => (s.new a z).elim ne (fun q => by rw [ha] at q; cases q), e'.trans ha, hz, r.ext s.ext⟩
  · have n' : ∀ xs, d ≠ .own xs := fun xs e => n ⟨xs, e⟩
    exact .sh ((h.rep n').ext s.ext) n'
theorem Fresh.of {H : Hp} {v : V} {d : D} (n : ∀ xs, d ≠ .own xs) : Fresh H v d := fun xs _ e _ => absurd e (n xs)
theorem Fresh.back {O O' : Addr → Prop} {H H' : Hp} {σ σ' : Sl} {env env' : En} {v : V} {d : D} (f : Fresh H' v d) (s : Step O H σ env O' H' σ' env') : Fresh H v d := fun xs a e1 e2 =>
  Classical.byContradiction fun q => s.dom a q (f xs a e1 e2)

/-- the slots stay, what is owned too -/
theorem EnvRel.grow {K : Frag} {O O' : Addr → Prop} {H H' : Hp} {σ : Sl} {env : En} (e : EnvRel K O H σ env) (x : Keeps O H O' H') (o : ∀ a, O a → O' a ∧ H' a = H a) (p : ∀ a, O' a → H' a ≠ none) : EnvRel K O' H' σ env where
  len := e.len
  sh := fun i d h n => let ⟨v, h1, h2⟩ := e.sh i d h n; ⟨v, h1, h2.ext x⟩
  ow := fun i xs h => let ⟨a, vs, h1, h2, h3, h4, h5⟩ := e.ow i xs h; ⟨a, vs, h1, (o a h2).1, (o a h2).2.trans h3, h4, h5.ext x⟩
  ne := e.ne
  ohp := p

section new
variable {K : Frag} {O : Addr → Prop} {H : Hp} {σ : Sl} {env : En} {p : Addr} {u : HO}
theorem keeps_upd (hp : H p = none) : Keeps O H O (upd H p u) := fun a o h n => ⟨by rw [upd_ne (fun z => by rw [z, hp] at h; cases h)]; exact h, n⟩
theorem dom_upd (a : Addr) (h : H a ≠ none) : upd H p u a ≠ none := by
  by_cases e : a = p
  · rw [e, upd_same]; exact fun z => by cases z
  · rw [upd_ne e]; exact h
/-- a new object that nobody owns -/
theorem EnvRel.laid (e : EnvRel K O H σ env) (hp : H p = none) : EnvRel K O (upd H p u) σ env ∧ Step O H σ env O (upd H p u) σ env := by
  have ne : ∀ a, O a → a ≠ p := fun a h z => e.ohp a h (by rw [z]; exact hp)
  refine ⟨e.grow (keeps_upd hp) (fun a h => ⟨h, upd_ne (ne a h)⟩) fun a h => dom_upd a (e.ohp a h), ⟨keeps_upd hp, fun a h _ => ⟨h, upd_ne (ne a h)⟩, dom_upd, fun a h => .inl h⟩⟩
/-- a new list, owned -/
def Plus (O : Addr → Prop) (p : Addr) : Addr → Prop := fun a => O a ∨ a = p
theorem EnvRel.laidO (e : EnvRel K O H σ env) (hp : H p = none) : EnvRel K (Plus O p) (upd H p u) σ env ∧ Step O H σ env (Plus O p) (upd H p u) σ env := by
  have ne : ∀ a, O a → a ≠ p := fun a h z => e.ohp a h (by rw [z]; exact hp)
  have kp : Keeps O H (Plus O p) (upd H p u) := fun a o h n => ⟨(keeps_upd (O := O) hp a o h n).1, fun z => z.elim n (fun z => by rw [z, hp] at h; cases h)⟩
  refine ⟨e.grow kp (fun a h => ⟨.inl h, upd_ne (ne a h)⟩) fun a h => ?_, ⟨kp, fun a h _ => ⟨.inl h, upd_ne (ne a h)⟩, dom_upd, fun a h => .inl h⟩⟩
  rcases h with h | h
  · exact dom_upd a (e.ohp a h)
  · rw [h, upd_same]; exact fun z => by cases z
/-- a list that was handed on is given to nobody -/
def Minus (O : Addr → Prop) (p : Addr) : Addr → Prop := fun a => O a ∧ a ≠ p
theorem keeps_minus : Keeps O H (Minus O p) H := fun a o h n => ⟨h, fun z => n z.1⟩
theorem EnvRel.let (e : EnvRel K O H σ env) (hn : ¬ Eo σ env p) : EnvRel K (Minus O p) H σ env where
  len := e.len
  sh := fun i d h n => let ⟨v, h1, h2⟩ := e.sh i d h n; ⟨v, h1, h2.ext keeps_minus⟩
  ow := fun i xs h => let ⟨a, vs, h1, h2, h3, h4, h5⟩ := e.ow i xs h; ⟨a, vs, h1, ⟨h2, fun z => hn ⟨i, xs, h, by rw [← z]; exact h1⟩⟩, h3, h4, h5.ext keeps_minus⟩
  ne := e.ne
  ohp := fun a h => e.ohp a h.1
end new

/-- what a value is, its owner forgotten: a Tmp becomes a list that is only read -/
theorem strip_ok {K : Frag} {O O0 : Addr → Prop} {H H0 : Hp} {σ : Sl} {env env0 : En} {v : V} {d : D} (e0 : EnvRel K O0 H0 σ env0) (e : EnvRel K O H σ env) (h : VRep K O H σ env v d) (f : Fresh H0 v d) (s : Step O0 H0 σ env0 O H σ env) :
    ∃ O', EnvRel K O' H σ env ∧ Rep K O' H v (strip d) ∧ Step O0 H0 σ env0 O' H σ env := by
  by_cases n : ∃ xs, d = .own xs
  · obtain ⟨xs, rfl⟩ := n
    obtain ⟨a, vs, rfl, o, ne, ha, hz, r⟩ := h
    have fr : H0 a = none := f xs a rfl rfl
    refine ⟨Minus O a, e.let ne, .lst ha (fun z => z.2 rfl) hz (r.ext keeps_minus), ⟨s.ext.trans keeps_minus, fun b ob nb => ?_, s.dom, s.new⟩⟩
    obtain ⟨o', e'⟩ := s.frm b ob nb
    exact ⟨⟨o', fun z => e0.ohp b ob (by rw [z]; exact fr)⟩, e'⟩
  · have n' : ∀ xs, d ≠ .own xs := fun xs e => n ⟨xs, e⟩
    have es : strip d = d := by cases d <;> first | rfl | exact absurd rfl (n' _)
    rw [es]
    exact ⟨O, e, h.rep n', s⟩
theorem strip_not (d : D) : ∀ xs, strip d ≠ .own xs := by intro xs; cases d <;> exact fun z => by cases z

/-! ### slots changed -/
theorem get_set_some {α : Type} {l : List (Option α)} {i j : Nat} {x : Option α} {y : α} (h : (l.set i x)[j]? = some (some y)) : (i = j ∧ x = some y ∧ i < l.length) ∨ (i ≠ j ∧ l[j]? = some (some y)) := by
  by_cases e : i = j
  · subst e
    by_cases hl : i < l.length
    · rw [List.getElem?_set_self hl] at h
      exact .inl ⟨rfl, Option.some.inj h, hl⟩
    · rw [List.getElem?_eq_none (by simpa using hl)] at h; cases h
  · rw [List.getElem?_set_ne e] at h
    exact .inr ⟨e, h⟩

/-- a slot's list is let go: it is only read any more -/
theorem EnvRel.freeze {K : Frag} {O : Addr → Prop} {H : Hp} {σ : Sl} {env : En} {i : Nat} {xs : List D} (e : EnvRel K O H σ env) (h : env[i]? = some (some (.own xs))) :
    ∃ a O', σ[i]? = some (some (.ref a)) ∧ EnvRel K O' H σ (env.set i (some (.lst xs))) ∧ Rep K O' H (.ref a) (.lst xs) ∧ Step O H σ env O' H σ (env.set i (some (.lst xs))) := by
  obtain ⟨a, vs, h1, h2, h3, h4, h5⟩ := e.ow i xs h
  have hl : i < env.length := (List.getElem?_eq_some_iff.mp h).1
  have r : Rep K (Minus O a) H (.ref a) (.lst xs) := .lst h3 (fun z => z.2 rfl) h4 (h5.ext keeps_minus)
  refine ⟨a, Minus O a, h1, ⟨by rw [List.length_set]; exact e.len, fun j d hj n => ?_, fun j ys hj => ?_, fun j k ys zs b hj hk => ?_, fun b hb => e.ohp b hb.1⟩, r, ⟨keeps_minus, fun b ob nb => ⟨⟨ob, fun z => nb (by rw [z]; exact ⟨i, xs, h, h1⟩)⟩, rfl⟩, fun _ q => q, fun b ⟨j, ys, hj, hs⟩ => ?_⟩⟩
  · rcases get_set_some hj with ⟨rfl, q, _⟩ | ⟨_, q⟩
    · cases q; exact ⟨_, h1, r⟩
    · obtain ⟨v, q1, q2⟩ := e.sh j d q n
      exact ⟨v, q1, q2.ext keeps_minus⟩
  · rcases get_set_some hj with ⟨_, q, _⟩ | ⟨ne, q⟩
    · cases q
    · obtain ⟨b, ws, q1, q2, q3, q4, q5⟩ := e.ow j ys q
      exact ⟨b, ws, q1, ⟨q2, fun z => ne (e.ne i j xs ys a h q h1 (by rw [← z]; exact q1))⟩, q3, q4, q5.ext keeps_minus⟩
  · rcases get_set_some hj with ⟨_, q, _⟩ | ⟨_, q⟩
    · cases q
    · rcases get_set_some hk with ⟨_, q', _⟩ | ⟨_, q'⟩
      · cases q'
      · exact e.ne j k ys zs b q q'
  · rcases get_set_some hj with ⟨_, q, _⟩ | ⟨_, q⟩
    · cases q
    · exact .inl ⟨j, ys, q, hs⟩

/-- a slot's list is changed -/
theorem EnvRel.write {K : Frag} {O : Addr → Prop} {H : Hp} {σ : Sl} {env : En} {i : Nat} {xs ys : List D} {a : Addr} {ws : List V} (e : EnvRel K O H σ env) (h : env[i]? = some (some (.own xs))) (ha : σ[i]? = some (some (.ref a)))
    (hz : ws.length ≤ sizeLine) (r : Reps K O H ws ys) : EnvRel K O (upd H a (.lst ws)) σ (env.set i (some (.own ys))) ∧ Step O H σ env O (upd H a (.lst ws)) σ (env.set i (some (.own ys))) := by
  obtain ⟨a', vs, h1, h2, h3, h4, h5⟩ := e.ow i xs h
  rw [ha] at h1; cases h1
  have kp : Keeps O H O (upd H a (.lst ws)) := fun b o q n => ⟨by rw [upd_ne (fun z => n (by rw [z]; exact h2))]; exact q, n⟩
  have hl : i < env.length := (List.getElem?_eq_some_iff.mp h).1
  refine ⟨⟨by rw [List.length_set]; exact e.len, fun j d hj n => ?_, fun j zs hj => ?_, fun j k zs zs' b hj hk q1 q2 => ?_, fun b hb => dom_upd b (e.ohp b hb)⟩, ⟨kp, fun b ob nb => ⟨ob, upd_ne fun z => nb (by rw [z]; exact ⟨i, xs, h, ha⟩)⟩, dom_upd, fun b ⟨j, zs, hj, hs⟩ => ?_⟩⟩
  · rcases get_set_some hj with ⟨_, q, _⟩ | ⟨_, q⟩
    · cases q; exact absurd rfl (n _)
    · obtain ⟨v, q1, q2⟩ := e.sh j d q n
      exact ⟨v, q1, q2.ext kp⟩
  · rcases get_set_some hj with ⟨rfl, q, _⟩ | ⟨ne, q⟩
    · cases q; exact ⟨a, ws, ha, h2, upd_same, hz, r.ext kp⟩
    · obtain ⟨b, us, q1, q2, q3, q4, q5⟩ := e.ow j zs q
      exact ⟨b, us, q1, q2, by rw [upd_ne (fun z => ne (e.ne i j xs zs a h q ha (by rw [← z]; exact q1)))]; exact q3, q4, q5.ext kp⟩
  · have f : ∀ {j : Nat} {zs : List D}, (env.set i (some (D.own ys)))[j]? = some (some (.own zs)) → ∃ zs' : List D, env[j]? = some (some (.own zs')) := fun {j zs} hj => by
      rcases get_set_some hj with ⟨rfl, _, _⟩ | ⟨_, q⟩
      · exact ⟨xs, h⟩
      · exact ⟨zs, q⟩
    obtain ⟨z1, p1⟩ := f hj
    obtain ⟨z2, p2⟩ := f hk
    exact e.ne j k z1 z2 b p1 p2 q1 q2
  · rcases get_set_some hj with ⟨rfl, q, _⟩ | ⟨_, q⟩
    · exact .inl ⟨i, xs, h, hs⟩
    · exact .inl ⟨j, zs, q, hs⟩

/-- a slot takes a value -/
theorem EnvRel.put {K : Frag} {O O0 : Addr → Prop} {H H0 : Hp} {σ0 σ : Sl} {env env0 : En} {i : Nat} {d : D} {v : V} (e : EnvRel K O H σ env) (h : VRep K O H σ env v d) (f : Fresh H0 v d) (s : Step O0 H0 σ0 env0 O H σ env) :
    EnvRel K O H (σ.set i (some v)) (env.set i (some d)) ∧ Step O0 H0 σ0 env0 O H (σ.set i (some v)) (env.set i (some d)) := by
  have eo : ∀ a, Eo (σ.set i (some v)) (env.set i (some d)) a → Eo σ env a ∨ (∃ xs, d = .own xs ∧ v = .ref a) := fun a ⟨j, xs, hj, hs⟩ => by
    rcases get_set_some hj with ⟨rfl, q, _⟩ | ⟨ne, q⟩
    · rcases get_set_some hs with ⟨_, q', _⟩ | ⟨ne, _⟩
      · cases q; cases q'; exact .inr ⟨xs, rfl, rfl⟩
      · exact absurd rfl ne
    · rcases get_set_some hs with ⟨q', _, _⟩ | ⟨_, q'⟩
      · exact absurd q' ne
      · exact .inl ⟨j, xs, q, q'⟩
  refine ⟨⟨by rw [List.length_set, List.length_set]; exact e.len, fun j d' hj n => ?_, fun j xs hj => ?_, fun j k xs ys a hj hk hs ht => ?_, e.ohp⟩, ⟨s.ext, s.frm, s.dom, fun a z => ?_⟩⟩
  · rcases get_set_some hj with ⟨rfl, q, hl⟩ | ⟨ne, q⟩
    · cases q
      exact ⟨v, by rw [List.getElem?_set_self (by rw [← e.len]; exact hl)], h.rep n⟩
    · obtain ⟨w, q1, q2⟩ := e.sh j d' q n
      exact ⟨w, by rw [List.getElem?_set_ne ne]; exact q1, q2⟩
  · rcases get_set_some hj with ⟨rfl, q, hl⟩ | ⟨ne, q⟩
    · cases q
      obtain ⟨a, vs, rfl, o, nE, ha, hz, r⟩ := h
      exact ⟨a, vs, by rw [List.getElem?_set_self (by rw [← e.len]; exact hl)], o, ha, hz, r⟩
    · obtain ⟨a, vs, q1, q2⟩ := e.ow j xs q
      exact ⟨a, vs, by rw [List.getElem?_set_ne ne]; exact q1, q2⟩
  · rcases get_set_some hj with ⟨rfl, q, _⟩ | ⟨n1, q⟩
    · rcases get_set_some hk with ⟨rfl, q', _⟩ | ⟨n2, q'⟩
      · rfl
      · rcases get_set_some ht with ⟨z, _, _⟩ | ⟨_, t'⟩
        · exact absurd z n2
        · cases q
          obtain ⟨b, vs, rfl, o, nE, _⟩ := h
          rcases get_set_some hs with ⟨_, z, _⟩ | ⟨z, _⟩
          · cases z; exact absurd ⟨k, ys, q', t'⟩ nE
          · exact absurd rfl z
    · rcases get_set_some hs with ⟨z, _, _⟩ | ⟨_, s'⟩
      · exact absurd z n1
      · rcases get_set_some hk with ⟨rfl, q', _⟩ | ⟨n2, q'⟩
        · cases q'
          obtain ⟨b, vs, rfl, o, nE, _⟩ := h
          rcases get_set_some ht with ⟨_, z, _⟩ | ⟨z, _⟩
          · cases z; exact absurd ⟨j, xs, q, s'⟩ nE
          · exact absurd rfl z
        · rcases get_set_some ht with ⟨z, _, _⟩ | ⟨_, t'⟩
          · exact absurd z n2
          · exact e.ne j k xs ys a q q' s' t'
  · rcases eo a z with q | ⟨xs, q1, q2⟩
    · exact s.new a q
    · exact .inr (f xs a q1 q2)
end Pv

set_option Elab.async false
set_option linter.all false
set_option maxRecDepth 100000
set_option maxHeartbeats 2000000
/-! Pv3: the primitive operations, by values. -/
namespace Pv
open PySem PySem.Spec
open L2 (V Hp HO VK TE TT TA TS TG TGs TI Ends Cx Inv PE PT PW PA PS PSs PG PGs PI SqL SqT Rd upd upd_same upd_ne Vals RelV Sp XK It R2 OpR CallR IxR SlR UnR Dp DpAll rI rI0 rU rCat rCatA rRep rIxL rIxT rSlL rSlA rEqD rNeD rIn)

section inv
variable {K : Frag} {O : Addr → Prop} {H : Hp} {v : V} {ds : List D}
theorem Rep.int_inv {i : Int} (h : Rep K O H v (.int i)) : v = .int i := by cases h; rfl
theorem Rep.bl_inv {i : Bool} (h : Rep K O H v (.bl i)) : v = .bl i := by cases h; rfl
theorem Rep.non_inv (h : Rep K O H v .non) : v = .non := by cases h; rfl
theorem Rep.str_inv {x : Str} (h : Rep K O H v (.str x)) : v = .str x ∧ x.length ≤ sizeLine := by cases h; exact ⟨rfl, by assumption⟩
theorem KTup.sq {a : Addr} {vs : List V} (h : KTup K a vs) : SqT K H a vs ∧ vs.length ≤ sizeLine := by
  refine ⟨.inr h, ?_⟩
  obtain ⟨o, its, n, _, _, _, hz, r⟩ := h
  have := r.length
  simp at this
  omega
theorem Rep.tup_inv (h : Rep K O H v (.tup ds)) : ∃ a vs, v = .ref a ∧ SqT K H a vs ∧ vs.length ≤ sizeLine ∧ Reps K O H vs ds := by
  cases h with
  | tup h ho hz r => exact ⟨_, _, rfl, .of h, hz, r⟩
  | tupK h r => exact ⟨_, _, rfl, (h.sq (H := H)).1, (h.sq (H := H)).2, r⟩
theorem Rep.rol_inv (h : Rep K O H v (.rol ds)) : ∃ a vs, v = .ref a ∧ SqL K H a vs ∧ vs.length ≤ sizeLine ∧ Reps K O H vs ds := by
  cases h with
  | rol h hz r =>
    refine ⟨_, _, rfl, ?_, hz, r⟩
    rcases h with ⟨⟨o, e⟩, _⟩ | k
    · exact .inl (.inr ⟨o, e⟩)
    · exact .inr k
end inv

/-- a value that is looked at, whoever has it -/
def BRep (K : Frag) (O : Addr → Prop) (H : Hp) (v : V) (d : D) : Prop := match d with
  | .lst ds => ∃ a vs, v = .ref a ∧ H a = some (.lst vs) ∧ vs.length ≤ sizeLine ∧ Reps K O H vs ds
  | .own _ => False
  | d => Rep K O H v d
theorem Rep.b {K : Frag} {O : Addr → Prop} {H : Hp} {v : V} {d : D} (h : Rep K O H v d) : BRep K O H v d := by
  cases h with
  | lst h ho hz r => exact ⟨_, _, rfl, h, hz, r⟩
  | non => exact .non
  | bl b => exact .bl b
  | int i => exact .int i
  | str h h2 => exact .str h h2
  | tup h ho hz r => exact .tup h ho hz r
  | tupK h r => exact .tupK h r
  | rol h hz r => exact .rol h hz r
theorem VRep.b {K : Frag} {O : Addr → Prop} {H : Hp} {σ : Sl} {env : En} {v : V} {d : D} (h : VRep K O H σ env v d) : BRep K O H v (strip d) := by
  by_cases n : ∃ xs, d = .own xs
  · obtain ⟨xs, rfl⟩ := n
    obtain ⟨a, vs, e, o, ne, ha, hz, r⟩ := h
    exact ⟨a, vs, e, ha, hz, r⟩
  · have n' : ∀ xs, d ≠ .own xs := fun xs e => n ⟨xs, e⟩
    have es : strip d = d := by cases d <;> first | rfl | exact absurd rfl (n' _)
    rw [es]
    exact (h.rep n').b
theorem EnvRel.b {K : Frag} {O : Addr → Prop} {H : Hp} {σ : Sl} {env : En} {i : Nat} {d : D} {v : V} (e : EnvRel K O H σ env) (h : peek i env = some d) (hs : σ[i]? = some (some v)) : BRep K O H v d := by
  unfold peek at h
  split at h
  · next d0 h0 =>
    cases h
    by_cases n : ∃ xs, d0 = .own xs
    · obtain ⟨xs, rfl⟩ := n
      obtain ⟨a, vs, h1, h2, h3, h4, h5⟩ := e.ow i xs h0
      rw [hs] at h1; cases h1
      exact ⟨a, vs, rfl, h3, h4, h5⟩
    · have n' : ∀ xs, d0 ≠ .own xs := fun xs e => n ⟨xs, e⟩
      have es : strip d0 = d0 := by cases d0 <;> first | rfl | exact absurd rfl (n' _)
      rw [es]
      obtain ⟨w, h1, h2⟩ := e.sh i d0 h0 n'
      rw [hs] at h1; cases h1
      exact h2.b
  · cases h
theorem EnvRel.slot {K : Frag} {O : Addr → Prop} {H : Hp} {σ : Sl} {env : En} {i : Nat} {d : D} (e : EnvRel K O H σ env) (h : peek i env = some d) : ∃ v, σ[i]? = some (some v) := by
  unfold peek at h
  split at h
  · next d0 h0 =>
    by_cases n : ∃ xs, d0 = .own xs
    · obtain ⟨xs, rfl⟩ := n
      obtain ⟨a, vs, h1, _⟩ := e.ow i xs h0
      exact ⟨_, h1⟩
    · obtain ⟨w, h1, h2⟩ := e.sh i d0 h0 fun xs e => n ⟨xs, e⟩
      exact ⟨_, h1⟩
  · cases h

/-- what is wanted behind an expression -/
def Post (K : Frag) (O : Addr → Prop) (H : Hp) (σ : Sl) (env env' : En) (d : D) (Q : VK) : Prop :=
  ∀ O' H' v, EnvRel K O' H' σ env' → VRep K O' H' σ env' v d → Fresh H v d → Step O H σ env O' H' σ env' → Q v H'

section fin
variable {K : Frag} {O : Addr → Prop} {H : Hp} {σ : Sl} {env : En} {v : V} {d : D} {Q : VK} {p : Addr} {vs : List V} {ds : List D}
theorem post_sh (e : EnvRel K O H σ env) (h : Rep K O H v d) (q : Post K O H σ env env d Q) : Q v H := by
  have n : ∀ xs, d ≠ .own xs := fun xs z => by subst z; exact h.notOwn
  exact q O H v e (.sh h n) (.of n) .refl
theorem post_lst (e : EnvRel K O H σ env) (hp : H p = none) (hz : vs.length ≤ sizeLine) (r : Reps K O H vs ds) (q : Post K O H σ env env (.own ds) Q) : Q (.ref p) (upd H p (.lst vs)) := by
  obtain ⟨e', s⟩ := e.laidO (u := .lst vs) hp
  refine q _ _ _ e' ⟨p, vs, rfl, .inr rfl, fun ⟨i, xs, h1, h2⟩ => ?_, upd_same, hz, r.ext s.ext⟩ (fun xs a _ ea => by cases ea; exact hp) s
  obtain ⟨a, ws, h3, h4, _⟩ := e.ow i xs h1
  rw [h2] at h3; cases h3
  exact e.ohp p h4 hp
theorem post_tup (e : EnvRel K O H σ env) (hp : H p = none) (hz : vs.length ≤ sizeLine) (r : Reps K O H vs ds) (q : Post K O H σ env env (.tup ds) Q) : Q (.ref p) (upd H p (.tup vs)) := by
  obtain ⟨e', s⟩ := e.laid (u := .tup vs) hp
  exact q _ _ _ e' (.sh (.tup upd_same (fun z => e.ohp p z hp) hz (r.ext s.ext)) fun _ z => by cases z) (.of fun _ z => by cases z) s
end fin

/-! ### equality -/
mutual
theorem dp_of {K : Frag} {O : Addr → Prop} {H : Hp} : ∀ (n : Nat) (d : D) (v : V) (p : PyData), toPy n d = some p → Rep K O H v d → Dp K H v p ∧ p.canLay0 = true ∧ p.depth ≤ n
  | n, .non, v, p, h, r => by
    simp [toPy] at h; subst h; cases r; exact ⟨.non, by simp [PyData.canLay0], by simp [PyData.depth]⟩
  | n, .bl b, v, p, h, r => by
    simp [toPy] at h; subst h; cases r; exact ⟨.bl b, by simp [PyData.canLay0], by simp [PyData.depth]⟩
  | n, .int b, v, p, h, r => by
    simp [toPy] at h; subst h; cases r; exact ⟨.int b, by simp [PyData.canLay0], by simp [PyData.depth]⟩
  | n, .str b, v, p, h, r => by
    simp [toPy] at h; subst h
    cases r with
    | str h1 h2 => exact ⟨.str b, by simpa [PyData.canLay0] using h2, by simp [PyData.depth]⟩
  | 0, .tup xs, v, p, h, r => by simp [toPy] at h
  | n + 1, .tup xs, v, p, h, r => by
    simp [toPy] at h
    obtain ⟨ps, h1, rfl⟩ := h
    obtain ⟨a, vs, rfl, h2, h3, h4⟩ := r.tup_inv
    obtain ⟨q1, q2, q3⟩ := dps_of n xs vs ps h1 h4
    exact ⟨.tup h2 q1, by simpa [PyData.canLay0] using q2, by simp [PyData.depth]; exact q3⟩
  | 0, .lst xs, v, p, h, r => by simp [toPy] at h
  | n + 1, .lst xs, v, p, h, r => by
    simp [toPy] at h
    obtain ⟨ps, h1, rfl⟩ := h
    cases r with
    | lst h2 ho hz h4 =>
      obtain ⟨q1, q2, q3⟩ := dps_of n xs _ ps h1 h4
      exact ⟨.lst (.of h2) q1, by simpa [PyData.canLay0] using q2, by simp [PyData.depth]; exact q3⟩
  | 0, .rol xs, v, p, h, r => by simp [toPy] at h
  | n + 1, .rol xs, v, p, h, r => by
    simp [toPy] at h
    obtain ⟨ps, h1, rfl⟩ := h
    obtain ⟨a, vs, rfl, h2, h3, h4⟩ := r.rol_inv
    obtain ⟨q1, q2, q3⟩ := dps_of n xs vs ps h1 h4
    exact ⟨.lst h2 q1, by simpa [PyData.canLay0] using q2, by simp [PyData.depth]; exact q3⟩
  | n, .own xs, v, p, h, r => r.notOwn.elim
theorem dps_of {K : Frag} {O : Addr → Prop} {H : Hp} : ∀ (n : Nat) (ds : List D) (vs : List V) (ps : List PyData), toPys n ds = some ps → Reps K O H vs ds → DpAll K H vs ps ∧ PyData.canLayAll0 ps = true ∧ PyData.depthAll ps ≤ n
  | n, [], vs, ps, h, r => by
    simp [toPys] at h; subst h; cases r; exact ⟨.nil, by simp [PyData.canLayAll0], by simp [PyData.depthAll]⟩
  | n, d :: ds, vs, ps, h, r => by
    cases r with
    | cons r1 r2 =>
      simp [toPys, Option.bind_eq_some_iff] at h
      obtain ⟨p, h1, qs, h2, rfl⟩ := h
      obtain ⟨a1, a2, a3⟩ := dp_of n d _ p h1 r1
      obtain ⟨b1, b2, b3⟩ := dps_of n ds _ qs h2 r2
      exact ⟨.cons a1 b1, by simp [PyData.canLayAll0, a2, b2], by simp [PyData.depthAll]; omega⟩
end
theorem dpB_of {K : Frag} {O : Addr → Prop} {H : Hp} {d : D} {v : V} {p : PyData} (h : toPy 60 d = some p) (r : BRep K O H v d) : Dp K H v p ∧ SeqAt.shaped p = true := by
  have fin : ∀ {p : PyData}, p.canLay0 = true → p.depth ≤ 60 → SeqAt.shaped p = true := fun {p} h1 h2 => by
    unfold SeqAt.shaped
    rw [h1, Bool.true_and]
    exact decide_eq_true (by omega)
  by_cases n : ∃ xs, d = .lst xs
  · obtain ⟨xs, rfl⟩ := n
    obtain ⟨a, vs, rfl, h2, hz, h4⟩ := r
    simp [toPy] at h
    obtain ⟨ps, h1, rfl⟩ := h
    obtain ⟨q1, q2, q3⟩ := dps_of 59 xs _ ps h1 h4
    exact ⟨.lst (.of h2) q1, fin (by simpa [PyData.canLay0] using q2) (by simp [PyData.depth]; exact q3)⟩
  · have r' : Rep K O H v d := by
      cases d <;> first | exact r | exact absurd ⟨_, rfl⟩ n | exact False.elim r
    obtain ⟨q1, q2, q3⟩ := dp_of 60 d v p h r'
    exact ⟨q1, fin q2 q3⟩

/-! ### the operations -/
section ops
variable {K : Frag} {O : Addr → Prop} {H : Hp} {σ : Sl} {env : En} {x y : V} {dx dy d : D} {Q : VK}
theorem nil_of {vs : List V} {ds : List D} (r : Reps K O H vs ds) (h : vs = []) : ds = [] := by subst h; cases r; rfl
def rAddP (K : Frag) : R2 := fun x y H Q => rI0 (fun i j => .int (i + j)) x y H Q ∨ rCat x y H Q ∨ rCatA K x y H Q
theorem pr_add (e : EnvRel K O H σ env) (bx : BRep K O H x dx) (hy : BRep K O H y dy) (h : pAdd dx dy = some d) (q : Post K O H σ env env d Q) : rAddP K x y H Q := by
  cases dx <;> cases dy <;> first | (simp [pAdd] at h; done) | skip
  case int.int i j =>
    simp [pAdd] at h; subst h
    have e1 := Rep.int_inv bx; have e2 := Rep.int_inv hy
    subst e1 e2
    exact .inl ⟨i, j, rfl, rfl, post_sh e (.int _) q⟩
  case lst.lst xs ys =>
    simp [pAdd] at h
    obtain ⟨hl, rfl⟩ := h
    obtain ⟨a, vs, rfl, h1, h2, h3⟩ := bx
    obtain ⟨b, ws, rfl, h4, h5, h6⟩ := hy
    have hl' : vs.length + ws.length ≤ sizeLine := by rw [h3.length, h6.length, ← LIM_eq]; exact hl
    exact .inr (.inl ⟨a, b, vs, ws, rfl, rfl, h1, h4, hl', fun p hp => post_lst e hp (by rw [List.length_append]; exact hl') (h3.append h6) q⟩)
  case tup.tup xs ys =>
    simp [pAdd] at h
    obtain ⟨hl, rfl⟩ := h
    have bx' : Rep K O H x (.tup xs) := bx
    have hy' : Rep K O H y (.tup ys) := hy
    obtain ⟨a, vs, rfl, h1, h2, h3⟩ := bx'.tup_inv
    obtain ⟨b, ws, rfl, h4, h5, h6⟩ := hy'.tup_inv
    have hl' : vs.length + ws.length ≤ sizeLine := by rw [h3.length, h6.length, ← LIM_eq]; exact hl
    refine .inr (.inr ⟨a, b, vs, ws, rfl, rfl, h1, h4, hl', fun z => ?_, fun _ z => ?_, fun _ _ p hp => post_tup e hp (by rw [List.length_append]; exact hl') (h3.append h6) q⟩)
    · rw [nil_of h3 z] at q
      exact post_sh e hy' q
    · rw [nil_of h6 z, List.append_nil] at q
      exact post_sh e bx' q
theorem pr_sub (e : EnvRel K O H σ env) (bx : BRep K O H x dx) (hy : BRep K O H y dy) (h : pSub dx dy = some d) (q : Post K O H σ env env d Q) : rI0 (fun i j => .int (i - j)) x y H Q := by
  cases dx <;> cases dy <;> first | (simp [pSub] at h; done) | skip
  case int.int i j =>
    simp [pSub] at h; subst h
    have e1 := Rep.int_inv bx; have e2 := Rep.int_inv hy
    subst e1 e2
    exact ⟨i, j, rfl, rfl, post_sh e (.int _) q⟩
def rMulP : R2 := fun x y H Q => rI L2.CMul (fun i j => .int (i * j)) x y H Q ∨ rI L2.CMulW (fun i j => .int (i * j)) x y H Q ∨ rRep x y H Q
theorem pr_mul (e : EnvRel K O H σ env) (bx : BRep K O H x dx) (hy : BRep K O H y dy) (h : pMul dx dy = some d) (q : Post K O H σ env env d Q) : rMulP x y H Q := by
  cases dx <;> cases dy <;> first | (simp [pMul] at h; done) | skip
  case int.int i j =>
    simp only [pMul, Option.ite_none_right_eq_some, Option.some.injEq] at h
    obtain ⟨hm, rfl⟩ := h
    have e1 := Rep.int_inv bx; have e2 := Rep.int_inv hy
    subst e1 e2
    unfold mulOk at hm
    rw [Bool.or_eq_true, Bool.or_eq_true] at hm
    rcases hm with (hm | hm) | hm
    · exact .inl ⟨i, j, rfl, rfl, .inl (of_decide_eq_true hm), post_sh e (.int _) q⟩
    · exact .inl ⟨i, j, rfl, rfl, .inr (of_decide_eq_true hm), post_sh e (.int _) q⟩
    · have hm2 : L2.CMulW i j := by have := of_decide_eq_true hm; exact this
      exact .inr (.inl ⟨i, j, rfl, rfl, hm2, post_sh e (.int _) q⟩)
  case lst.int xs k =>
    simp only [pMul, Option.ite_none_right_eq_some, Option.some.injEq] at h
    obtain ⟨⟨h1, h2, h3⟩, rfl⟩ := h
    obtain ⟨a, vs, rfl, g1, g2, g3⟩ := bx
    have e2 := Rep.int_inv hy
    subst e2
    have hz : vs.length * k.toNat ≤ sizeLine := by rw [g3.length, ← LIM_eq]; exact h3
    refine .inr (.inr ⟨a, k, vs, rfl, rfl, g1, h1, h2, hz, fun p hp => post_lst e hp ?_ (g3.rep _) q⟩)
    have : (List.replicate k.toNat vs).flatten.length = k.toNat * vs.length := by simp
    rw [this, Nat.mul_comm]; exact hz
theorem pr_div (e : EnvRel K O H σ env) (bx : BRep K O H x dx) (hy : BRep K O H y dy) (h : pDiv dx dy = some d) (q : Post K O H σ env env d Q) : rI L2.CDivW (fun i j => .int (i / j)) x y H Q := by
  cases dx <;> cases dy <;> first | (simp [pDiv] at h; done) | skip
  case int.int i j =>
    simp only [pDiv, Option.ite_none_right_eq_some, Option.some.injEq] at h
    obtain ⟨hm, rfl⟩ := h
    have e1 := Rep.int_inv bx; have e2 := Rep.int_inv hy
    subst e1 e2
    exact ⟨i, j, rfl, rfl, hm, post_sh e (.int _) q⟩
theorem pr_mod (e : EnvRel K O H σ env) (bx : BRep K O H x dx) (hy : BRep K O H y dy) (h : pMod dx dy = some d) (q : Post K O H σ env env d Q) : rI (fun _ j => 0 < j) (fun i j => .int (i % j)) x y H Q := by
  cases dx <;> cases dy <;> first | (simp [pMod] at h; done) | skip
  case int.int i j =>
    simp only [pMod, Option.ite_none_right_eq_some, Option.some.injEq] at h
    obtain ⟨hm, rfl⟩ := h
    have e1 := Rep.int_inv bx; have e2 := Rep.int_inv hy
    subst e1 e2
    exact ⟨i, j, rfl, rfl, hm, post_sh e (.int _) q⟩
theorem pr_pow (e : EnvRel K O H σ env) (bx : BRep K O H x dx) (hy : BRep K O H y dy) (h : pPow dx dy = some d) (q : Post K O H σ env env d Q) : rI L2.CPow (fun i j => .int (i ^ j.toNat)) x y H Q := by
  cases dx <;> cases dy <;> first | (simp [pPow] at h; done) | skip
  case int.int i j =>
    simp only [pPow, Option.ite_none_right_eq_some, Option.some.injEq] at h
    obtain ⟨hm, rfl⟩ := h
    have e1 := Rep.int_inv bx; have e2 := Rep.int_inv hy
    subst e1 e2
    exact ⟨i, j, rfl, rfl, hm, post_sh e (.int _) q⟩
theorem pr_neg (e : EnvRel K O H σ env) (bx : BRep K O H x dx) (h : pNeg dx = some d) (q : Post K O H σ env env d Q) : rU (fun i => .int (-i)) x H Q := by
  cases dx <;> first | (simp [pNeg] at h; done) | skip
  case int i =>
    simp [pNeg] at h; subst h
    have e1 := Rep.int_inv bx
    subst e1
    exact ⟨i, rfl, post_sh e (.int _) q⟩
theorem pr_eq (e : EnvRel K O H σ env) (bx : BRep K O H x dx) (hy : BRep K O H y dy) (h : (deq dx dy).map D.bl = some d) (q : Post K O H σ env env d Q) : rEqD K x y H Q := by
  simp only [deq, Option.map_eq_some_iff, Option.bind_eq_some_iff] at h
  obtain ⟨b, ⟨p, h1, r, h2, rfl⟩, rfl⟩ := h
  obtain ⟨a1, a2⟩ := dpB_of h1 bx
  obtain ⟨b1, b2⟩ := dpB_of h2 hy
  exact ⟨p, r, a1, b1, a2, b2, post_sh e (.bl _) q⟩
theorem pr_ne (e : EnvRel K O H σ env) (bx : BRep K O H x dx) (hy : BRep K O H y dy) (h : (deq dx dy).map (fun b => D.bl (!b)) = some d) (q : Post K O H σ env env d Q) : rNeD K x y H Q := by
  simp only [deq, Option.map_eq_some_iff, Option.bind_eq_some_iff] at h
  obtain ⟨b, ⟨p, h1, r, h2, rfl⟩, rfl⟩ := h
  obtain ⟨a1, a2⟩ := dpB_of h1 bx
  obtain ⟨b1, b2⟩ := dpB_of h2 hy
  exact ⟨p, r, a1, b1, a2, b2, post_sh e (.bl _) q⟩
theorem pr_cmp {p : Int → Int → Bool} (e : EnvRel K O H σ env) (bx : BRep K O H x dx) (hy : BRep K O H y dy) (h : pCmp p dx dy = some d) (q : Post K O H σ env env d Q) : rI0 (fun i j => .bl (p i j)) x y H Q := by
  cases dx <;> cases dy <;> first | (simp [pCmp] at h; done) | skip
  case int.int i j =>
    simp [pCmp] at h; subst h
    have e1 := Rep.int_inv bx; have e2 := Rep.int_inv hy
    subst e1 e2
    exact ⟨i, j, rfl, rfl, post_sh e (.bl _) q⟩
theorem isNon_ok (bx : BRep K O H x dx) : decide (x = .non) = isNon dx := by
  cases dx with
  | lst xs => obtain ⟨a, vs, rfl, _⟩ := bx; rfl
  | own xs => exact False.elim bx
  | non => cases bx; rfl
  | bl b => cases bx; rfl
  | int b => cases bx; rfl
  | str b => cases bx; rfl
  | tup b => cases bx <;> rfl
  | rol b => cases bx; rfl
theorem pr_isN (e : EnvRel K O H σ env) (bx : BRep K O H x dx) (h : some (D.bl (isNon dx)) = some d) (q : Post K O H σ env env d Q) : Q (.bl (decide (x = .non))) H := by
  cases h
  rw [isNon_ok bx]
  exact post_sh e (.bl _) q
theorem pr_notN (e : EnvRel K O H σ env) (bx : BRep K O H x dx) (h : some (D.bl (!isNon dx)) = some d) (q : Post K O H σ env env d Q) : Q (.bl (!decide (x = .non))) H := by
  cases h
  rw [isNon_ok bx]
  exact post_sh e (.bl _) q
theorem pr_isB (e : EnvRel K O H σ env) (bx : BRep K O H x dx) (hy : BRep K O H y dy) (h : pIsB false dx dy = some d) (q : Post K O H σ env env d Q) : L2.rIsB x y H Q := by
  cases dx <;> cases dy <;> first | (simp [pIsB] at h; done) | skip
  case bl.bl i j =>
    simp only [pIsB, Option.some.injEq] at h; subst h
    have e1 := Rep.bl_inv bx; have e2 := Rep.bl_inv hy
    subst e1 e2
    exact ⟨i, j, rfl, rfl, post_sh e (.bl _) q⟩
theorem pr_notB (e : EnvRel K O H σ env) (bx : BRep K O H x dx) (hy : BRep K O H y dy) (h : pIsB true dx dy = some d) (q : Post K O H σ env env d Q) : L2.rNotB x y H Q := by
  cases dx <;> cases dy <;> first | (simp [pIsB] at h; done) | skip
  case bl.bl i j =>
    simp only [pIsB, Option.some.injEq] at h; subst h
    have e1 := Rep.bl_inv bx; have e2 := Rep.bl_inv hy
    subst e1 e2
    exact ⟨i, j, rfl, rfl, post_sh e (.bl _) q⟩
def flatOf : D → V
  | .non => .non | .bl b => .bl b | .int i => .int i | .str x => .str x | _ => .non
theorem flat_of (h : Rep K O H x dx) (f : flat dx = true) : x = flatOf dx ∧ L2.flatV x = true := by
  cases dx <;> first | (simp [flat] at f; done) | skip
  all_goals (cases h; exact ⟨rfl, rfl⟩)
theorem feq_ok (f : flat dx = true) (g : flat dy = true) : L2.eqV (flatOf dy) (flatOf dx) = feq dy dx := by
  cases dx <;> first | (simp [flat] at f; done) | skip
  all_goals (cases dy <;> first | (simp [flat] at g; done) | rfl)
theorem any_feq {x : V} {dx : D} (hx : x = flatOf dx) (f : flat dx = true) : ∀ {vs : List V} {ds : List D}, Reps K O H vs ds → ds.all flat = true → vs.all L2.flatV = true ∧ L2.inV x vs = ds.any fun y => feq y dx
  | _, _, .nil, _ => ⟨rfl, rfl⟩
  | _, _, .cons (v := v) (d := d) (vs := vs) (ds := ds) r t, g => by
    simp only [List.all_cons, Bool.and_eq_true] at g
    obtain ⟨h1, h2⟩ := any_feq hx f t g.2
    obtain ⟨k1, k2⟩ := flat_of r g.1
    refine ⟨by simp only [List.all_cons, k2, h1, Bool.and_self], ?_⟩
    have : L2.inV x (v :: vs) = (L2.eqV v x || L2.inV x vs) := rfl
    rw [this, h2, List.any_cons, k1, hx, feq_ok f g.1]
theorem flatB (bx : BRep K O H x dx) (f : flat dx = true) : Rep K O H x dx := by
  cases dx <;> first | exact bx | (simp [flat] at f; done)
theorem pr_in {neg : Bool} (e : EnvRel K O H σ env) (bx : BRep K O H x dx) (hy : BRep K O H y dy) (h : pIn neg dx dy = some d) (q : Post K O H σ env env d Q) : rIn K neg x y H Q := by
  cases dy <;> first | (simp [pIn] at h; done) | skip
  case lst ys =>
    simp only [pIn, Option.ite_none_right_eq_some, Option.some.injEq, Bool.and_eq_true] at h
    obtain ⟨⟨f, g⟩, rfl⟩ := h
    obtain ⟨a, vs, rfl, h1, h2, h3⟩ := hy
    obtain ⟨k1, k2⟩ := flat_of (flatB bx f) f
    obtain ⟨m1, m2⟩ := any_feq k1 f h3 g
    exact ⟨a, vs, rfl, .inl (.of h1), k2, m1, by rw [m2]; exact post_sh e (.bl _) q⟩
  case tup ys =>
    simp only [pIn, Option.ite_none_right_eq_some, Option.some.injEq, Bool.and_eq_true] at h
    obtain ⟨⟨f, g⟩, rfl⟩ := h
    obtain ⟨a, vs, rfl, h1, h2, h3⟩ := Rep.tup_inv hy
    obtain ⟨k1, k2⟩ := flat_of (flatB bx f) f
    obtain ⟨m1, m2⟩ := any_feq k1 f h3 g
    exact ⟨a, vs, rfl, .inr h1, k2, m1, by rw [m2]; exact post_sh e (.bl _) q⟩
theorem at_ok {vs : List V} {ds : List D} {i : Int} (r : Reps K O H vs ds) (h : atI ds i = some d) : ∃ v, L2.atI vs i = some v ∧ Rep K O H v d := by
  unfold atI at h
  unfold L2.atI
  rw [r.length]
  cases e : ixN ds.length i with
  | none => rw [e] at h; cases h
  | some j =>
    rw [e] at h
    have e2 : L2.ixN ds.length i = some j := e
    rw [e2]
    exact r.get h
def rIdxP (K : Frag) : R2 := fun x y H Q => rIxL K x y H Q ∨ rIxT K x y H Q
theorem pr_idx (e : EnvRel K O H σ env) (bx : BRep K O H x dx) (hy : BRep K O H y dy) (h : pIdx dx dy = some d) (q : Post K O H σ env env d Q) : rIdxP K x y H Q := by
  cases dx <;> cases dy <;> first | (simp [pIdx] at h; done) | skip
  case lst.int xs i =>
    obtain ⟨a, vs, rfl, h1, h2, h3⟩ := bx
    have e2 := Rep.int_inv hy
    subst e2
    obtain ⟨v, k1, k2⟩ := at_ok h3 h
    exact .inl ⟨a, vs, i, v, rfl, rfl, .of h1, k1, post_sh e k2 q⟩
  case rol.int xs i =>
    obtain ⟨a, vs, rfl, h1, h2, h3⟩ := Rep.rol_inv bx
    have e2 := Rep.int_inv hy
    subst e2
    obtain ⟨v, k1, k2⟩ := at_ok h3 h
    exact .inl ⟨a, vs, i, v, rfl, rfl, h1, k1, post_sh e k2 q⟩
  case tup.int xs i =>
    obtain ⟨a, vs, rfl, h1, h2, h3⟩ := Rep.tup_inv bx
    have e2 := Rep.int_inv hy
    subst e2
    obtain ⟨v, k1, k2⟩ := at_ok h3 h
    exact .inr ⟨a, vs, i, v, rfl, rfl, h1, k1, post_sh e k2 q⟩
theorem cut_ok {vs : List V} {ds : List D} {lo hi : Option Int} (r : Reps K O H vs ds) : Reps K O H (L2.cutV vs lo hi) (cut ds lo hi) := by
  have e : L2.cutV vs lo hi = cut vs lo hi := rfl
  rw [e]
  unfold cut
  rw [r.length]
  exact (r.drop _).take _
def rSlP (K : Frag) : V → Option Int → Option Int → Hp → VK → Prop := fun x lo hi H Q => rSlL K x lo hi H Q ∨ rSlA K x lo hi H Q
theorem cut_all {xs : List D} {lo hi : Option Int} (h : HT.sIx xs.length 0 lo = 0 ∧ HT.sIx xs.length xs.length hi = xs.length) : cut xs lo hi = xs := by
  have h1 : sIx xs.length 0 lo = 0 := h.1
  have h2 : sIx xs.length xs.length hi = xs.length := h.2
  unfold cut
  rw [h1, h2]
  simp
theorem pr_slice {lo hi : Option Int} (e : EnvRel K O H σ env) (bx : BRep K O H x dx) (h : sliceOf dx lo hi = some d) (q : Post K O H σ env env d Q) : rSlP K x lo hi H Q := by
  cases dx <;> first | (simp [sliceOf] at h; done) | skip
  case lst xs =>
    simp [sliceOf] at h; subst h
    obtain ⟨a, vs, rfl, h1, h2, h3⟩ := bx
    exact .inl ⟨a, vs, rfl, .of h1, fun p hp => post_lst e hp (Nat.le_trans (L2.cutV_length ..) h2) (cut_ok h3) q⟩
  case rol xs =>
    simp [sliceOf] at h; subst h
    obtain ⟨a, vs, rfl, h1, h2, h3⟩ := Rep.rol_inv bx
    exact .inl ⟨a, vs, rfl, h1, fun p hp => post_lst e hp (Nat.le_trans (L2.cutV_length ..) h2) (cut_ok h3) q⟩
  case tup xs =>
    simp [sliceOf] at h; subst h
    have bx' : Rep K O H x (.tup xs) := bx
    obtain ⟨a, vs, rfl, h1, h2, h3⟩ := Rep.tup_inv bx
    refine .inr ⟨a, vs, rfl, h1, fun hw => ?_, fun _ p hp => post_tup e hp (Nat.le_trans (L2.cutV_length ..) h2) (cut_ok h3) q⟩
    rw [h3.length] at hw
    rw [cut_all hw] at q
    exact post_sh e bx' q
theorem pr_len (e : EnvRel K O H σ env) (bx : BRep K O H x dx) (h : pLen dx = some d) (q : Post K O H σ env env d Q) : ∃ z n, [x] = [z] ∧ L2.LenV K z H n ∧ Q (.int n) H := by
  cases dx <;> first | (simp [pLen] at h; done) | skip
  case str s =>
    simp [pLen] at h; subst h
    obtain ⟨rfl, hz⟩ := Rep.str_inv bx
    exact ⟨_, s.length, rfl, ⟨hz, rfl⟩, post_sh e (.int _) q⟩
  case lst xs =>
    simp [pLen] at h; subst h
    obtain ⟨a, vs, rfl, h1, h2, h3⟩ := bx
    exact ⟨_, xs.length, rfl, .inl ⟨vs, .of h1, h3.length.symm⟩, post_sh e (.int _) q⟩
  case rol xs =>
    simp [pLen] at h; subst h
    obtain ⟨a, vs, rfl, h1, h2, h3⟩ := Rep.rol_inv bx
    exact ⟨_, xs.length, rfl, .inl ⟨vs, h1, h3.length.symm⟩, post_sh e (.int _) q⟩
  case tup xs =>
    simp [pLen] at h; subst h
    obtain ⟨a, vs, rfl, h1, h2, h3⟩ := Rep.tup_inv bx
    exact ⟨_, xs.length, rfl, .inr ⟨vs, h1, h3.length.symm⟩, post_sh e (.int _) q⟩
theorem pr_int2 {f : Int → Int → Int} (e : EnvRel K O H σ env) (bx : BRep K O H x dx) (hy : BRep K O H y dy) (h : pInt2 f dx dy = some d) (q : Post K O H σ env env d Q) : ∃ i j, [x, y] = [V.int i, V.int j] ∧ Q (.int (f i j)) H := by
  cases dx <;> cases dy <;> first | (simp [pInt2] at h; done) | skip
  case int.int i j =>
    simp [pInt2] at h; subst h
    have e1 := Rep.int_inv bx; have e2 := Rep.int_inv hy
    subst e1 e2
    exact ⟨i, j, rfl, post_sh e (.int _) q⟩
theorem pr_abs (e : EnvRel K O H σ env) (bx : BRep K O H x dx) (h : pAbs dx = some d) (q : Post K O H σ env env d Q) : ∃ i, [x] = [V.int i] ∧ Q (.int (if i < 0 then -i else i)) H := by
  cases dx <;> first | (simp [pAbs] at h; done) | skip
  case int i =>
    simp only [pAbs, Option.some.injEq] at h; subst h
    have e1 := Rep.int_inv bx
    subst e1
    exact ⟨i, rfl, post_sh e (.int _) q⟩
theorem pr_int (e : EnvRel K O H σ env) (bx : BRep K O H x dx) (h : pInt dx = some d) (q : Post K O H σ env env d Q) : (∃ i, [x] = [V.int i] ∧ Q (.int i) H) ∨ ∃ k, [x] = [V.bl k] ∧ Q (.int (if k then 1 else 0)) H := by
  cases dx <;> first | (simp [pInt] at h; done) | skip
  case int i =>
    simp only [pInt, Option.some.injEq] at h; subst h
    have e1 := Rep.int_inv bx
    subst e1
    exact .inl ⟨i, rfl, post_sh e (.int _) q⟩
  case bl i =>
    simp only [pInt, Option.some.injEq] at h; subst h
    have e1 := Rep.bl_inv bx
    subst e1
    exact .inr ⟨i, rfl, post_sh e (.int _) q⟩
theorem ints_ok : ∀ {ds : List D} {vs : List V} {is : List Int}, dInts ds = some is → Reps K O H vs ds → vs = is.map V.int
  | [], _, _, h, .nil => by simp [dInts] at h; subst h; rfl
  | d :: ds, _, is, h, .cons r t => by
    cases d <;> first | (simp [dInts] at h; done) | skip
    case int i =>
      simp [dInts] at h
      obtain ⟨js, h1, rfl⟩ := h
      rw [ints_ok h1 t, Rep.int_inv r]; rfl
theorem bools_ok : ∀ {ds : List D} {vs : List V} {is : List Bool}, dBools ds = some is → Reps K O H vs ds → vs = is.map V.bl
  | [], _, _, h, .nil => by simp [dBools] at h; subst h; rfl
  | d :: ds, _, is, h, .cons r t => by
    cases d <;> first | (simp [dBools] at h; done) | skip
    case bl i =>
      simp [dBools] at h
      obtain ⟨js, h1, rfl⟩ := h
      rw [bools_ok h1 t, Rep.bl_inv r]; rfl
theorem pr_sum (e : EnvRel K O H σ env) (bx : BRep K O H x dx) (h : pSum dx = some d) (q : Post K O H σ env env d Q) : L2.rSum K [x] H Q := by
  cases dx <;> first | (simp [pSum] at h; done) | skip
  case lst xs =>
    simp [pSum] at h
    obtain ⟨is, h0, rfl⟩ := h
    obtain ⟨a, vs, rfl, h1, h2, h3⟩ := bx
    rw [ints_ok h0 h3] at h1
    exact ⟨a, is, rfl, .of h1, post_sh e (.int _) q⟩
theorem pr_any (e : EnvRel K O H σ env) (bx : BRep K O H x dx) (h : pAny dx = some d) (q : Post K O H σ env env d Q) : L2.rAny K [x] H Q := by
  cases dx <;> first | (simp [pAny] at h; done) | skip
  case lst xs =>
    simp only [pAny, Option.map_eq_some_iff] at h
    obtain ⟨is, h0, rfl⟩ := h
    obtain ⟨a, vs, rfl, h1, h2, h3⟩ := bx
    rw [bools_ok h0 h3] at h1
    exact ⟨a, is, rfl, .of h1, post_sh e (.bl _) q⟩
theorem pr_all (e : EnvRel K O H σ env) (bx : BRep K O H x dx) (h : pAll dx = some d) (q : Post K O H σ env env d Q) : L2.rAll K [x] H Q := by
  cases dx <;> first | (simp [pAll] at h; done) | skip
  case lst xs =>
    simp only [pAll, Option.map_eq_some_iff] at h
    obtain ⟨is, h0, rfl⟩ := h
    obtain ⟨a, vs, rfl, h1, h2, h3⟩ := bx
    rw [bools_ok h0 h3] at h1
    exact ⟨a, is, rfl, .of h1, post_sh e (.bl _) q⟩
theorem pr_tup (e : EnvRel K O H σ env) (bx : BRep K O H x dx) (h : pTup dx = some d) (q : Post K O H σ env env d Q) : ∃ p ys, [x] = [V.ref p] ∧ ((SqL K H p ys ∧ ∀ l, H l = none → Q (.ref l) (upd H l (.tup ys))) ∨ (SqT K H p ys ∧ Q (.ref p) H)) := by
  cases dx <;> first | (simp [pTup] at h; done) | skip
  case lst xs =>
    simp [pTup] at h; subst h
    obtain ⟨a, vs, rfl, h1, h2, h3⟩ := bx
    exact ⟨a, vs, rfl, .inl ⟨.of h1, fun l hl => post_tup e hl h2 h3 q⟩⟩
  case tup xs =>
    simp [pTup] at h; subst h
    have bx' : Rep K O H x (.tup xs) := bx
    obtain ⟨a, vs, rfl, h1, h2, h3⟩ := bx'.tup_inv
    exact ⟨a, vs, rfl, .inr ⟨h1, post_sh e bx' q⟩⟩
theorem pr_lst (e : EnvRel K O H σ env) (bx : BRep K O H x dx) (h : pLst dx = some d) (q : Post K O H σ env env d Q) : ∃ p ys, [x] = [V.ref p] ∧ (SqL K H p ys ∨ SqT K H p ys) ∧ ∀ l, H l = none → Q (.ref l) (upd H l (.lst ys)) := by
  cases dx <;> first | (simp [pLst] at h; done) | skip
  case lst xs =>
    simp [pLst] at h; subst h
    obtain ⟨a, vs, rfl, h1, h2, h3⟩ := bx
    exact ⟨a, vs, rfl, .inl (.of h1), fun l hl => post_lst e hl h2 h3 q⟩
  case rol xs =>
    simp [pLst] at h; subst h
    obtain ⟨a, vs, rfl, h1, h2, h3⟩ := Rep.rol_inv bx
    exact ⟨a, vs, rfl, .inl h1, fun l hl => post_lst e hl h2 h3 q⟩
  case tup xs =>
    simp [pLst] at h; subst h
    obtain ⟨a, vs, rfl, h1, h2, h3⟩ := Rep.tup_inv bx
    exact ⟨a, vs, rfl, .inr h1, fun l hl => post_lst e hl h2 h3 q⟩
theorem typ_ok (bx : BRep K O H x dx) : L2.TyX K H x (.type (typ dx)) := by
  cases dx with
  | non => cases bx; exact .base .non
  | bl b => cases bx; exact .base (.bl b)
  | int b => cases bx; exact .base (.int b)
  | str b => cases bx; exact .base (.str b)
  | lst xs => obtain ⟨a, vs, rfl, h1, _⟩ := bx; exact .base (.lst h1)
  | own xs => exact False.elim bx
  | tup xs =>
    have bx' : Rep K O H x (.tup xs) := bx
    cases bx' with
    | tup h ho hz r => exact .base (.tup h)
    | tupK h r => obtain ⟨o, its, n, h1, h2, _⟩ := h; exact .kTuple h1 h2
  | rol xs =>
    have bx' : Rep K O H x (.rol xs) := bx
    cases bx' with
    | rol h hz r =>
      rcases h with ⟨⟨o, e⟩, _⟩ | ⟨o, its, n, h1, h2, _⟩
      · exact .base (.frz e)
      · exact .kList h1 h2
theorem typ_cases (d : D) : typ d = "NoneType" ∨ typ d = "bool" ∨ typ d = "int" ∨ typ d = "str" ∨ typ d = "tuple" ∨ typ d = "list" := by
  cases d <;> simp [typ]
theorem isi_ok {a b : String} {r : Bool} (ha : a = "NoneType" ∨ a = "bool" ∨ a = "int" ∨ a = "str" ∨ a = "tuple" ∨ a = "list") (h : isiB a b = some r) : L2.kitB a b = some r := by
  unfold isiB at h
  split at h
  · next e => subst e; rcases ha with rfl | rfl | rfl | rfl | rfl | rfl <;> (simp at h; subst h; decide +kernel)
  · split at h
    · next e => subst e; rcases ha with rfl | rfl | rfl | rfl | rfl | rfl <;> (simp at h; subst h; decide +kernel)
    · split at h
      · next e => subst e; rcases ha with rfl | rfl | rfl | rfl | rfl | rfl <;> (simp at h; subst h; decide +kernel)
      · split at h
        · next e => subst e; rcases ha with rfl | rfl | rfl | rfl | rfl | rfl <;> (simp at h; subst h; decide +kernel)
        · split at h
          · next e => subst e; rcases ha with rfl | rfl | rfl | rfl | rfl | rfl <;> (simp at h; subst h; decide +kernel)
          · cases h
theorem pr_isi {T : String} (e : EnvRel K O H σ env) (bx : BRep K O H x dx) (h : (isiB (typ dx) T).map D.bl = some d) (q : Post K O H σ env env d Q) : L2.rIsi K [x, .ty T] H Q := by
  rw [Option.map_eq_some_iff] at h
  obtain ⟨b, h1, rfl⟩ := h
  exact ⟨x, .ty T, _, _, b, rfl, .ty T, typ_ok bx, L2.kit_ty (isi_ok (typ_cases dx) h1), post_sh e (.bl _) q⟩
theorem pr_tru {b : Bool} (bx : BRep K O H x dx) (h : truth dx = some b) : L2.TruV K x H b := by
  cases dx with
  | non => cases bx; simp only [truth, Option.some.injEq] at h; exact h.symm
  | bl c => cases bx; simp only [truth, Option.some.injEq] at h; exact h.symm
  | int i => cases bx; simp only [truth, Option.some.injEq] at h; exact h.symm
  | str z => obtain ⟨rfl, hz⟩ := Rep.str_inv bx; simp only [truth, Option.some.injEq] at h; exact ⟨hz, h.symm⟩
  | own xs => exact False.elim bx
  | lst xs =>
    obtain ⟨a, vs, rfl, h1, h2, h3⟩ := bx
    simp only [truth, Option.some.injEq] at h
    exact .inl ⟨vs, .of h1, by rw [← h]; cases h3 <;> rfl⟩
  | rol xs =>
    obtain ⟨a, vs, rfl, h1, h2, h3⟩ := Rep.rol_inv bx
    simp only [truth, Option.some.injEq] at h
    exact .inl ⟨vs, h1, by rw [← h]; cases h3 <;> rfl⟩
  | tup xs =>
    obtain ⟨a, vs, rfl, h1, h2, h3⟩ := Rep.tup_inv bx
    simp only [truth, Option.some.injEq] at h
    exact .inr (.inl ⟨vs, h1, by rw [← h]; cases h3 <;> rfl⟩)
end ops
end Pv

set_option Elab.async false
set_option linter.all false
set_option maxRecDepth 100000
set_option maxHeartbeats 2000000
/-! Pv4: readings of expressions that go as the evaluator tells. -/
namespace Pv
open PySem PySem.Spec
open L2 (V Hp HO VK TE TT TA TS TG TGs TI Ends Cx Inv PE PT PW PA PS PSs PG PGs PI SqL SqT Rd upd upd_same upd_ne Vals RelV Sp XK It R2 OpR CallR IxR SlR UnR Dp DpAll tVar tC tOp tUn tCons tNil tTup tLst tCB tTest)

/-! ### operands -/
def ORep (K : Frag) (O : Addr → Prop) (H : Hp) (σ : Sl) (env : En) (v : V) : Opd → Prop
  | .inl i => σ[i]? = some (some v)
  | .inr d => VRep K O H σ env v d
def OFr (H : Hp) (v : V) : Opd → Prop
  | .inl _ => True
  | .inr d => Fresh H v d
theorem ORep.step {K : Frag} {O O' : Addr → Prop} {H H' : Hp} {σ : Sl} {env env' : En} {v : V} {w : Opd} (h : ORep K O H σ env v w) (s : Step O H σ env O' H' σ env') : ORep K O' H' σ env' v w := by
  cases w with
  | inl i => exact h
  | inr d => exact VRep.step h s
theorem OFr.back {O O' : Addr → Prop} {H H' : Hp} {σ σ' : Sl} {env env' : En} {v : V} {w : Opd} (f : OFr H' v w) (s : Step O H σ env O' H' σ' env') : OFr H v w := by
  cases w with
  | inl i => exact f
  | inr d => exact Fresh.back f s
def OPost (K : Frag) (O : Addr → Prop) (H : Hp) (σ : Sl) (env env' : En) (w : Opd) (Q : VK) : Prop :=
  ∀ O' H' v, EnvRel K O' H' σ env' → ORep K O' H' σ env' v w → OFr H v w → Step O H σ env O' H' σ env' → Q v H'

/-- an argument: a slot that is lent, or a value -/
def ARep (K : Frag) (O : Addr → Prop) (H : Hp) (σ : Sl) (v : V) : Opd → Prop
  | .inl i => σ[i]? = some (some v)
  | .inr d => Rep K O H v d
theorem ARep.ext {K : Frag} {O O' : Addr → Prop} {H H' : Hp} {σ : Sl} {v : V} {w : Opd} (h : ARep K O H σ v w) (x : Keeps O H O' H') : ARep K O' H' σ v w := by
  cases w with
  | inl i => exact h
  | inr d => exact Rep.ext x h
def Ex.slot? : Ex → Option Nat
  | .var i => some i
  | .lend i => some i
  | _ => none
section
variable (K : Frag) (tab : Nat → Option Fn) (R : Rn)
structure RdE (x : Ex) (t : TE) : Prop where
  run : ∀ (O : Addr → Prop) (σ : Sl) (H : Hp) (env : En) (d : D) (env' : En) (Q : VK), EnvRel K O H σ env → ev tab R x env = some (d, env') → Post K O H σ env env' d Q → t σ H Q
  var : ∀ i, x.slot? = some i → ∀ (σ : Sl) (H : Hp) (Q : VK) (v : V), σ[i]? = some (some v) → Q v H → t σ H Q
structure RdA (xs : Exs) (t : TA) : Prop where
  opd : ∀ (O : Addr → Prop) (σ : Sl) (H : Hp) (env : En) (ws : List Opd) (env' : En) (Q : List V → Hp → Prop), EnvRel K O H σ env → evo tab R xs env = some (ws, env') →
    (∀ O' H' vs, EnvRel K O' H' σ env' → Paired (ORep K O' H' σ env') vs ws → Paired (OFr H) vs ws → Step O H σ env O' H' σ env' → Q vs H') → t σ H Q
  val : ∀ (O : Addr → Prop) (σ : Sl) (H : Hp) (env : En) (ds : List D) (env' : En) (Q : List V → Hp → Prop), EnvRel K O H σ env → evs tab R xs env = some (ds, env') →
    (∀ O' H' vs, EnvRel K O' H' σ env' → Reps K O' H' vs ds → Step O H σ env O' H' σ env' → Q vs H') → t σ H Q
  arg : ∀ (O : Addr → Prop) (σ : Sl) (H : Hp) (env : En) (ws : List Opd) (env' : En) (Q : List V → Hp → Prop), EnvRel K O H σ env → evc tab R xs env = some (ws, env') →
    (∀ O' H' vs, EnvRel K O' H' σ env' → Paired (ARep K O' H' σ) vs ws → Step O H σ env O' H' σ env' → Q vs H') → t σ H Q
structure RdT (y : Tt) (t : TT) : Prop where
  run : ∀ (O : Addr → Prop) (σ : Sl) (H : Hp) (env : En) (b : Bool) (env' : En) (Q : Bool → Hp → Prop), EnvRel K O H σ env → evT tab R y env = some (b, env') →
    (∀ O' H', EnvRel K O' H' σ env' → Step O H σ env O' H' σ env' → Q b H') → t σ H Q
end
/-- what varies from a def's body to a comprehension's block in it -/
structure Vy where
  s : Shared
  H : Hp
  env : PySem.Env
  outer : List PySem.Env
  ex : List Addr
  fn : Str → Bool
  pn : List (Addr × Obj)
  xe : Value → Shared → Prop
abbrev vary (X : Cx) (v : Vy) : Cx := { X with s_0 := v.s, H_0 := v.H, env := v.env, outer := v.outer, ex := v.ex, fn := v.fn, pn := v.pn, xe := v.xe }
structure GV (sc : Scope) (fnc : Str → Bool) (v : Vy) : Prop where
  hsc : v.env.scope = sc
  fn : ∀ x, fnc x = true → v.fn x = true
  xe : v.xe = fun _ _ => False
def PEd (X : Cx) (sc : Scope) (fnc : Str → Bool) (tab : Nat → Option Fn) (R : Rn) (e : Expr) (x : Ex) : Prop := ∃ t, (∀ v, GV sc fnc v → PE (vary X v) e t) ∧ RdE X.K tab R x t
def PAd (X : Cx) (sc : Scope) (fnc : Str → Bool) (tab : Nat → Option Fn) (R : Rn) (es : List Expr) (xs : Exs) : Prop := ∃ t, (∀ v, GV sc fnc v → PA (vary X v) es t) ∧ RdA X.K tab R xs t
def PTd (X : Cx) (sc : Scope) (fnc : Str → Bool) (tab : Nat → Option Fn) (R : Rn) (e : Expr) (y : Tt) : Prop := ∃ t, (∀ v, GV sc fnc v → PT (vary X v) e t) ∧ RdT X.K tab R y t
def PWd (X : Cx) (sc : Scope) (fnc : Str → Bool) (tab : Nat → Option Fn) (R : Rn) (e : Expr) (y : Tt) : Prop := ∃ t, (∀ v, GV sc fnc v → PW (vary X v) e t) ∧ RdT X.K tab R y t

section
variable {K : Frag} {tab : Nat → Option Fn} {R : Rn} {x xa xb : Ex} {xs : Exs} {t ta tb : TE}
/-- a later start -/
theorem Post.later {O O' : Addr → Prop} {H H' : Hp} {σ : Sl} {env env1 env' : En} {d : D} {Q : VK} (e : EnvRel K O H σ env) (q : Post K O H σ env env' d Q) (s : Step O H σ env O' H' σ env1) : Post K O' H' σ env1 env' d Q :=
  fun O2 H2 v e2 r f s2 => q O2 H2 v e2 r (f.back s) (s.trans e.ohp s2)
theorem evo_cons {ws : List Opd} {env env2 : En} (h : RdE K tab R x t) (he : evo tab R (.cons x xs) env = some (ws, env2)) :
    ∃ w ws' env1, ws = w :: ws' ∧ evo tab R xs env1 = some (ws', env2) ∧ ∀ (O : Addr → Prop) (σ : Sl) (H : Hp) (Q : VK), EnvRel K O H σ env → OPost K O H σ env env1 w Q → t σ H Q := by
  by_cases hv : ∃ i, x = .var i
  · obtain ⟨i, rfl⟩ := hv
    simp only [evo, Option.bind_eq_some_iff, Option.map_eq_some_iff] at he
    obtain ⟨d, h1, r, h2, h3⟩ := he
    cases h3
    refine ⟨.inl i, r.1, env, rfl, h2, fun O σ H Q e q => ?_⟩
    obtain ⟨v, hs⟩ := e.slot h1
    exact h.var i rfl σ H Q v hs (q O H v e hs trivial .refl)
  · have he' : ((ev tab R x env).bind fun q => (evo tab R xs q.2).map fun r => (.inr q.1 :: r.1, r.2)) = some (ws, env2) := by
      cases x <;> first | exact absurd ⟨_, rfl⟩ hv | (simpa only [evo] using he)
    simp only [Option.bind_eq_some_iff, Option.map_eq_some_iff] at he'
    obtain ⟨q, h1, r, h2, h3⟩ := he'
    cases h3
    exact ⟨.inr q.1, r.1, q.2, rfl, h2, fun O σ H Q e p => h.run O σ H env q.1 q.2 Q e h1 p⟩
theorem settle_ok {O : Addr → Prop} {H : Hp} {σ : Sl} {env : En} (e : EnvRel K O H σ env) : ∀ {ws : List Opd} {vs : List V} {ds : List D}, Paired (ORep K O H σ env) vs ws → settle env ws = some ds → Paired (BRep K O H) vs ds
  | _, _, _, .nil, h => by simp [settle] at h; subst h; exact .nil
  | .inl i :: ws, _, _, .cons r t, h => by
    simp only [settle, Option.bind_eq_some_iff, Option.map_eq_some_iff] at h
    obtain ⟨d, h1, ds, h2, rfl⟩ := h
    exact .cons (e.b h1 r) (settle_ok e t h2)
  | .inr d :: ws, _, _, .cons r t, h => by
    simp only [settle, Option.map_eq_some_iff] at h
    obtain ⟨ds, h2, rfl⟩ := h
    exact .cons (VRep.b r) (settle_ok e t h2)

theorem opd1 {ws : List Opd} {ds : List D} {env env' : En} (ha : RdE K tab R xa ta) (he : evo tab R (.cons xa .nil) env = some (ws, env')) (hd : settle env' ws = some ds) {O : Addr → Prop} {σ : Sl} {H : Hp} {k : V → Hp → Prop} (e : EnvRel K O H σ env)
    (hk : ∀ O' H' x dx, ds = [dx] → EnvRel K O' H' σ env' → BRep K O' H' x dx → Step O H σ env O' H' σ env' → k x H') : ta σ H k := by
  obtain ⟨w, ws', env1, rfl, h1, h2⟩ := evo_cons ha he
  simp only [evo, Option.some.injEq, Prod.mk.injEq] at h1
  obtain ⟨rfl, rfl⟩ := h1
  refine h2 O σ H k e fun O1 H1 v e1 r1 f1 s1 => ?_
  have b := settle_ok e1 (.cons r1 .nil) hd
  cases b with
  | cons b1 bt => cases bt; exact hk O1 H1 v _ rfl e1 b1 s1
theorem opd2 {ws : List Opd} {ds : List D} {env env' : En} (ha : RdE K tab R xa ta) (hb : RdE K tab R xb tb) (he : evo tab R (.cons xa (.cons xb .nil)) env = some (ws, env')) (hd : settle env' ws = some ds) {O : Addr → Prop} {σ : Sl} {H : Hp}
    {k : V → V → Hp → Prop} (e : EnvRel K O H σ env) (hk : ∀ O' H' x y dx dy, ds = [dx, dy] → EnvRel K O' H' σ env' → BRep K O' H' x dx → BRep K O' H' y dy → Step O H σ env O' H' σ env' → k x y H') :
    ta σ H fun x H1 => tb σ H1 fun y H2 => k x y H2 := by
  obtain ⟨w, ws', env1, rfl, h1, h2⟩ := evo_cons ha he
  obtain ⟨w', ws'', env2, rfl, h3, h4⟩ := evo_cons hb h1
  simp only [evo, Option.some.injEq, Prod.mk.injEq] at h3
  obtain ⟨rfl, rfl⟩ := h3
  refine h2 O σ H _ e fun O1 H1 v e1 r1 f1 s1 => h4 O1 σ H1 _ e1 fun O2 H2 v' e2 r2 f2 s2 => ?_
  have b := settle_ok e2 (.cons (r1.step s2) (.cons r2 .nil)) hd
  cases b with
  | cons b1 bt =>
    cases bt with
    | cons b2 bt => cases bt; exact hk O2 H2 v v' _ _ rfl e2 b1 b2 (s1.trans e.ohp s2)

theorem rd_op1 {o : Op} {r : V → Hp → VK → Prop} {t : TE} (ha : RdE K tab R xa ta) (ht : ∀ σ H Q, (ta σ H fun x H1 => r x H1 Q) → t σ H Q)
    (hr : ∀ {O : Addr → Prop} {H : Hp} {σ : Sl} {env : En} {x : V} {dx d : D} {Q : VK}, EnvRel K O H σ env → BRep K O H x dx → prim o [dx] = some d → Post K O H σ env env d Q → r x H Q) : RdE K tab R (.op o (.cons xa .nil)) t where
  run := fun O σ H env d env' Q e h q => by
    simp only [ev, Option.bind_eq_some_iff, Option.map_eq_some_iff] at h
    obtain ⟨⟨ws, env1⟩, h1, ds, h2, d', h3, h4⟩ := h
    cases h4
    refine ht σ H Q (opd1 ha h1 h2 e fun O' H' x dx hd e' b s => ?_)
    subst hd
    exact hr e' b h3 (q.later e s)
  var := fun i h => by cases h
theorem rd_op2 {o : Op} {r : V → V → Hp → VK → Prop} {t : TE} (ha : RdE K tab R xa ta) (hb : RdE K tab R xb tb) (ht : ∀ σ H Q, (ta σ H fun x H1 => tb σ H1 fun y H2 => r x y H2 Q) → t σ H Q)
    (hr : ∀ {O : Addr → Prop} {H : Hp} {σ : Sl} {env : En} {x y : V} {dx dy d : D} {Q : VK}, EnvRel K O H σ env → BRep K O H x dx → BRep K O H y dy → prim o [dx, dy] = some d → Post K O H σ env env d Q → r x y H Q) :
    RdE K tab R (.op o (.cons xa (.cons xb .nil))) t where
  run := fun O σ H env d env' Q e h q => by
    simp only [ev, Option.bind_eq_some_iff, Option.map_eq_some_iff] at h
    obtain ⟨⟨ws, env1⟩, h1, ds, h2, d', h3, h4⟩ := h
    cases h4
    refine ht σ H Q (opd2 ha hb h1 h2 e fun O' H' x y dx dy hd e' b b' s => ?_)
    subst hd
    exact hr e' b b' h3 (q.later e s)
  var := fun i h => by cases h

/-! ### names, constants -/
theorem rd_var {i : Nat} : RdE K tab R (.var i) (tVar i) where
  run := fun O σ H env d env' Q e h q => by
    simp only [ev] at h
    unfold getF at h
    split at h
    · next d0 hx =>
      cases h
      by_cases hn : ∃ xs, d0 = .own xs
      · obtain ⟨xs, rfl⟩ := hn
        obtain ⟨a, O', h1, h2, h3, h4⟩ := e.freeze hx
        exact ⟨_, h1, q O' H _ h2 (.sh h3 fun _ z => by cases z) (.of fun _ z => by cases z) h4⟩
      · have n : ∀ xs, d0 ≠ .own xs := fun xs z => hn ⟨xs, z⟩
        have es : strip d0 = d0 := by cases d0 <;> first | rfl | exact absurd rfl (n _)
        have ee : env.set i (some d0) = env := by
          apply List.ext_getElem?
          intro j
          by_cases hj : i = j
          · subst hj
            rw [hx, List.getElem?_set_self (List.getElem?_eq_some_iff.mp hx).1]
          · rw [List.getElem?_set_ne hj]
        obtain ⟨v, h1, h2⟩ := e.sh i _ hx n
        rw [es, ee] at q
        exact ⟨v, h1, post_sh e h2 q⟩
    · cases h
  var := fun j h σ H Q v hs q => by cases h; exact ⟨v, hs, q⟩
theorem rd_lend {i : Nat} : RdE K tab R (.lend i) (tVar i) where
  run := fun O σ H env d env' Q e h q => by simp [ev] at h
  var := fun j h σ H Q v hs q => by cases h; exact ⟨v, hs, q⟩
theorem rd_con {d : D} {v : V} (h : ∀ O H, Rep K O H v d) : RdE K tab R (.con d) (tC v) where
  run := fun O σ H env d' env' Q e h' q => by
    simp only [ev, Option.some.injEq, Prod.mk.injEq] at h'
    obtain ⟨rfl, rfl⟩ := h'
    exact post_sh e (h O H) q
  var := fun i h => by cases h

/-! ### argument lists -/
theorem rda_nil : RdA K tab R .nil tNil where
  opd := fun O σ H env ws env' Q e h q => by
    simp only [evo, Option.some.injEq, Prod.mk.injEq] at h
    obtain ⟨rfl, rfl⟩ := h
    exact q O H [] e .nil .nil .refl
  val := fun O σ H env ws env' Q e h q => by
    simp only [evs, Option.some.injEq, Prod.mk.injEq] at h
    obtain ⟨rfl, rfl⟩ := h
    exact q O H [] e .nil .refl
  arg := fun O σ H env ws env' Q e h q => by
    simp only [evc, Option.some.injEq, Prod.mk.injEq] at h
    obtain ⟨rfl, rfl⟩ := h
    exact q O H [] e .nil .refl
theorem rda_cons {ts : TA} (ha : RdE K tab R x t) (hs : RdA K tab R xs ts) : RdA K tab R (.cons x xs) (tCons t ts) where
  arg := fun O σ H env ws env' Q e h q => by
    by_cases hv : ∃ i, x = .lend i
    · obtain ⟨i, rfl⟩ := hv
      simp only [evc, Option.bind_eq_some_iff, Option.map_eq_some_iff] at h
      obtain ⟨dd, h1, r, h2, h3⟩ := h
      cases h3
      obtain ⟨v, hv⟩ := e.slot h1
      refine ha.var i rfl σ H _ v hv (hs.arg O σ H env r.1 _ _ e h2 fun O2 H2 vs e2 r2 s2 => ?_)
      exact q O2 H2 (v :: vs) e2 (.cons hv r2) s2
    · have he' : ((ev tab R x env).bind fun q => (evc tab R xs q.2).map fun r => (.inr (strip q.1) :: r.1, r.2)) = some (ws, env') := by
        cases x <;> first | exact absurd ⟨_, rfl⟩ hv | (simpa only [evc] using h)
      simp only [Option.bind_eq_some_iff, Option.map_eq_some_iff] at he'
      obtain ⟨⟨d, env1⟩, h1, ⟨ws', env2⟩, h2, h3⟩ := he'
      cases h3
      refine ha.run O σ H env d env1 _ e h1 fun O1 H1 v e1 r1 f1 s1 => ?_
      obtain ⟨O1', e1', r1', s1'⟩ := strip_ok e e1 r1 f1 s1
      refine hs.arg O1' σ H1 env1 ws' env2 _ e1' h2 fun O2 H2 vs e2 r2 s2 => ?_
      exact q O2 H2 (v :: vs) e2 (.cons (Rep.ext s2.ext r1') r2) (s1'.trans e.ohp s2)
  opd := fun O σ H env ws env' Q e h q => by
    obtain ⟨w, ws', env1, rfl, h1, h2⟩ := evo_cons ha h
    refine h2 O σ H _ e fun O1 H1 v e1 r1 f1 s1 => ?_
    refine hs.opd O1 σ H1 env1 ws' env' _ e1 h1 fun O2 H2 vs e2 r2 f2 s2 => ?_
    refine q O2 H2 (v :: vs) e2 (.cons (r1.step s2) r2) (.cons f1 ?_) (s1.trans e.ohp s2)
    exact L2.Paired.mapP f2 fun a b z => z.back s1
  val := fun O σ H env ds env' Q e h q => by
    simp only [evs, Option.bind_eq_some_iff, Option.map_eq_some_iff] at h
    obtain ⟨⟨d, env1⟩, h1, ⟨ds', env2⟩, h2, h3⟩ := h
    cases h3
    refine ha.run O σ H env d env1 _ e h1 fun O1 H1 v e1 r1 f1 s1 => ?_
    obtain ⟨O1', e1', r1', s1'⟩ := strip_ok e e1 r1 f1 s1
    refine hs.val O1' σ H1 env1 ds' env2 _ e1' h2 fun O2 H2 vs e2 r2 s2 => ?_
    exact q O2 H2 (v :: vs) e2 (.cons (r1'.ext s2.ext) r2) (s1'.trans e.ohp s2)
theorem rd_tup {ts : TA} (h : RdA K tab R xs ts) (hl : ∀ env ds env', evs tab R xs env = some (ds, env') → ds.length ≤ sizeLine) : RdE K tab R (.tup xs) (tTup ts) where
  run := fun O σ H env d env' Q e h' q => by
    simp only [ev, Option.map_eq_some_iff] at h'
    obtain ⟨⟨ds, env1⟩, h1, h2⟩ := h'
    cases h2
    refine h.val O σ H env ds _ _ e h1 fun O1 H1 vs e1 r1 s1 => ?_
    have hz : vs.length ≤ sizeLine := by rw [r1.length]; exact hl _ _ _ h1
    exact ⟨hz, fun p hp => post_tup e1 hp hz r1 (q.later e s1)⟩
  var := fun i h => by cases h
theorem rd_lst {ts : TA} (h : RdA K tab R xs ts) (hl : ∀ env ds env', evs tab R xs env = some (ds, env') → ds.length ≤ sizeLine) : RdE K tab R (.lst xs) (tLst ts) where
  run := fun O σ H env d env' Q e h' q => by
    simp only [ev, Option.map_eq_some_iff] at h'
    obtain ⟨⟨ds, env1⟩, h1, h2⟩ := h'
    cases h2
    refine h.val O σ H env ds _ _ e h1 fun O1 H1 vs e1 r1 s1 => ?_
    have hz : vs.length ≤ sizeLine := by rw [r1.length]; exact hl _ _ _ h1
    exact ⟨hz, fun p hp => post_lst e1 hp hz r1 (q.later e s1)⟩
  var := fun i h => by cases h
def Exs.len : Exs → Nat
  | .nil => 0
  | .cons _ es => es.len + 1
theorem evs_len : ∀ {xs : Exs} {env : En} {ds : List D} {env' : En}, evs tab R xs env = some (ds, env') → ds.length = xs.len
  | .nil, _, _, _, h => by simp only [evs, Option.some.injEq, Prod.mk.injEq] at h; obtain ⟨rfl, _⟩ := h; rfl
  | .cons x xs, _, _, _, h => by
    simp only [evs, Option.bind_eq_some_iff, Option.map_eq_some_iff] at h
    obtain ⟨⟨d, env1⟩, h1, ⟨ds', env2⟩, h2, h3⟩ := h
    cases h3
    simp [Exs.len, evs_len h2]
theorem evo_len : ∀ {xs : Exs} {env : En} {ds : List Opd} {env' : En}, evo tab R xs env = some (ds, env') → ds.length = xs.len
  | .nil, _, _, _, h => by simp only [evo, Option.some.injEq, Prod.mk.injEq] at h; obtain ⟨rfl, _⟩ := h; rfl
  | .cons x xs, env, wsA, envA, h => by
    by_cases hv : ∃ i, x = .var i
    · obtain ⟨i, rfl⟩ := hv
      simp only [evo, Option.bind_eq_some_iff, Option.map_eq_some_iff] at h
      obtain ⟨d, h1, r, h2, h3⟩ := h
      cases h3
      simp [Exs.len, evo_len h2]
    · have he' : ((ev tab R x env).bind fun q => (evo tab R xs q.2).map fun r => (Sum.inr q.1 :: r.1, r.2)) = some (wsA, envA) := by
        cases x <;> first | exact absurd ⟨_, rfl⟩ hv | (simpa only [evo] using h)
      simp only [Option.bind_eq_some_iff, Option.map_eq_some_iff] at he'
      obtain ⟨q, h1, r, h2, h3⟩ := he'
      cases h3
      simp [Exs.len, evo_len h2]

theorem evc_len : ∀ {xs : Exs} {env : En} {ds : List Opd} {env' : En}, evc tab R xs env = some (ds, env') → ds.length = xs.len
  | .nil, _, _, _, h => by simp only [evc, Option.some.injEq, Prod.mk.injEq] at h; obtain ⟨rfl, _⟩ := h; rfl
  | .cons x xs, env, wsA, envA, h => by
    by_cases hv : ∃ i, x = .lend i
    · obtain ⟨i, rfl⟩ := hv
      simp only [evc, Option.bind_eq_some_iff, Option.map_eq_some_iff] at h
      obtain ⟨d, h1, r, h2, h3⟩ := h
      cases h3
      simp [Exs.len, evc_len h2]
    · have he' : ((ev tab R x env).bind fun q => (evc tab R xs q.2).map fun r => (Sum.inr (strip q.1) :: r.1, r.2)) = some (wsA, envA) := by
        cases x <;> first | exact absurd ⟨_, rfl⟩ hv | (simpa only [evc] using h)
      simp only [Option.bind_eq_some_iff, Option.map_eq_some_iff] at he'
      obtain ⟨q, h1, r, h2, h3⟩ := he'
      cases h3
      simp [Exs.len, evc_len h2]

/-! ### tests -/
theorem rt_yes : RdT K tab R .yes L2.tYes where
  run := fun O σ H env b env' Q e h q => by
    simp only [evT, Option.some.injEq, Prod.mk.injEq] at h
    obtain ⟨rfl, rfl⟩ := h
    exact q O H e .refl
theorem rt_not {y : Tt} {t : TT} (h : RdT K tab R y t) : RdT K tab R (.not y) (L2.tNot t) where
  run := fun O σ H env b env' Q e h' q => by
    simp only [evT, Option.map_eq_some_iff] at h'
    obtain ⟨⟨c, env1⟩, h1, h2⟩ := h'
    cases h2
    exact h.run O σ H env c _ _ e h1 fun O1 H1 e1 s1 => q O1 H1 e1 s1
theorem rt_and {y z : Tt} {t u : TT} (h : RdT K tab R y t) (k : RdT K tab R z u) : RdT K tab R (.and y z) (L2.tAnd t u) where
  run := fun O σ H env b env' Q e h' q => by
    simp only [evT, Option.bind_eq_some_iff] at h'
    obtain ⟨⟨c, env1⟩, h1, h2⟩ := h'
    refine h.run O σ H env c _ _ e h1 fun O1 H1 e1 s1 => ?_
    cases c with
    | true =>
      rw [if_pos rfl] at h2 ⊢
      exact k.run O1 σ H1 env1 b _ _ e1 h2 fun O2 H2 e2 s2 => q O2 H2 e2 (s1.trans e.ohp s2)
    | false =>
      rw [if_neg Bool.false_ne_true] at h2 ⊢
      cases h2
      exact q O1 H1 e1 s1
theorem rt_or {y z : Tt} {t u : TT} (h : RdT K tab R y t) (k : RdT K tab R z u) : RdT K tab R (.or y z) (L2.tOr t u) where
  run := fun O σ H env b env' Q e h' q => by
    simp only [evT, Option.bind_eq_some_iff] at h'
    obtain ⟨⟨c, env1⟩, h1, h2⟩ := h'
    refine h.run O σ H env c _ _ e h1 fun O1 H1 e1 s1 => ?_
    cases c with
    | true =>
      rw [if_pos rfl] at h2 ⊢
      cases h2
      exact q O1 H1 e1 s1
    | false =>
      rw [if_neg Bool.false_ne_true] at h2 ⊢
      exact k.run O1 σ H1 env1 b _ _ e1 h2 fun O2 H2 e2 s2 => q O2 H2 e2 (s1.trans e.ohp s2)
/-- any value, by its truth -/
theorem rt_val {x : Ex} {t : TE} (h : RdE K tab R x t) : RdT K tab R (.val x) (fun σ H Q => t σ H fun v H' => ∃ k, L2.TruV K v H' k ∧ Q k H') where
  run := fun O σ H env b env' Q e h' q => by
    by_cases hv : ∃ i, x = .var i
    · obtain ⟨i, rfl⟩ := hv
      simp only [evT, Option.bind_eq_some_iff, Option.map_eq_some_iff] at h'
      obtain ⟨d, h1, b', h2, h3⟩ := h'
      cases h3
      obtain ⟨v, hs⟩ := e.slot h1
      exact h.var i rfl σ H _ v hs ⟨b, pr_tru (e.b h1 hs) h2, q O H e .refl⟩
    · have he' : ((ev tab R x env).bind fun r => (truth r.1).map fun b => (b, r.2)) = some (b, env') := by
        cases x <;> first | exact absurd ⟨_, rfl⟩ hv | (simpa only [evT] using h')
      simp only [Option.bind_eq_some_iff, Option.map_eq_some_iff] at he'
      obtain ⟨⟨d, env1⟩, h1, b', h2, h3⟩ := he'
      cases h3
      refine h.run O σ H env d _ _ e h1 fun O1 H1 v e1 r1 f1 s1 => ?_
      have ht : truth (strip d) = some b := by cases d <;> exact h2
      exact ⟨b, pr_tru r1.b ht, q O1 H1 e1 s1⟩
/-- a value that is a truth -/
theorem rt_bool {x : Ex} {t : TE} (h : RdE K tab R x t) (hn : ∀ i, x ≠ .var i) (hb : ∀ env d env', ev tab R x env = some (d, env') → ∃ b, d = .bl b) : RdT K tab R (.val x) (tTest t) where
  run := fun O σ H env b env' Q e h' q => by
    have he' : ((ev tab R x env).bind fun r => (truth r.1).map fun b => (b, r.2)) = some (b, env') := by
      cases x <;> first | exact absurd rfl (hn _) | (simpa only [evT] using h')
    simp only [Option.bind_eq_some_iff, Option.map_eq_some_iff] at he'
    obtain ⟨⟨d, env1⟩, h1, b', h2, h3⟩ := he'
    cases h3
    obtain ⟨c, rfl⟩ := hb _ _ _ h1
    simp only [truth, Option.some.injEq] at h2
    subst h2
    refine h.run O σ H env _ _ _ e h1 fun O1 H1 v e1 r1 f1 s1 => ?_
    have := Rep.bl_inv (show Rep K O1 H1 v (.bl c) from r1)
    exact ⟨c, this, q O1 H1 e1 s1⟩

/-! ### and, or, not, if as values -/
theorem rd_and {t u : TE} (h : RdE K tab R xa t) (k : RdE K tab R xb u) : RdE K tab R (.and xa xb) (L2.tAndV t u) where
  run := fun O σ H env d env' Q e h' q => by
    simp only [ev, Option.bind_eq_some_iff] at h'
    obtain ⟨⟨c, env1⟩, h1, h2⟩ := h'
    refine h.run O σ H env c _ _ e h1 fun O1 H1 v e1 r1 f1 s1 => ?_
    dsimp only at h2
    split at h2
    · have := Rep.bl_inv (show Rep K O1 H1 v (.bl true) from r1)
      exact ⟨true, this, by rw [if_pos rfl]; exact k.run O1 σ H1 env1 d _ _ e1 h2 (q.later e s1)⟩
    · have := Rep.bl_inv (show Rep K O1 H1 v (.bl false) from r1)
      cases h2
      exact ⟨false, this, by rw [if_neg Bool.false_ne_true]; exact post_sh e1 (.bl _) (q.later e s1)⟩
    · cases h2
  var := fun i h => by cases h
theorem rd_or {t u : TE} (h : RdE K tab R xa t) (k : RdE K tab R xb u) : RdE K tab R (.or xa xb) (L2.tOrV t u) where
  run := fun O σ H env d env' Q e h' q => by
    simp only [ev, Option.bind_eq_some_iff] at h'
    obtain ⟨⟨c, env1⟩, h1, h2⟩ := h'
    refine h.run O σ H env c _ _ e h1 fun O1 H1 v e1 r1 f1 s1 => ?_
    dsimp only at h2
    split at h2
    · have := Rep.bl_inv (show Rep K O1 H1 v (.bl false) from r1)
      exact ⟨false, this, by rw [if_neg Bool.false_ne_true]; exact k.run O1 σ H1 env1 d _ _ e1 h2 (q.later e s1)⟩
    · have := Rep.bl_inv (show Rep K O1 H1 v (.bl true) from r1)
      cases h2
      exact ⟨true, this, by rw [if_pos rfl]; exact post_sh e1 (.bl _) (q.later e s1)⟩
    · cases h2
  var := fun i h => by cases h
theorem rd_not {t : TE} (h : RdE K tab R xa t) : RdE K tab R (.not xa) (L2.tNotV t) where
  run := fun O σ H env d env' Q e h' q => by
    simp only [ev, Option.bind_eq_some_iff] at h'
    obtain ⟨⟨c, env1⟩, h1, h2⟩ := h'
    refine h.run O σ H env c _ _ e h1 fun O1 H1 v e1 r1 f1 s1 => ?_
    dsimp only at h2
    split at h2
    · next b =>
      have := Rep.bl_inv (show Rep K O1 H1 v (.bl b) from r1)
      cases h2
      exact ⟨b, this, post_sh e1 (.bl _) (q.later e s1)⟩
    · cases h2
  var := fun i h => by cases h
theorem rd_ite {y : Tt} {tt : TT} {t u : TE} (hc : RdT K tab R y tt) (h : RdE K tab R xa t) (k : RdE K tab R xb u) : RdE K tab R (.ite y xa xb) (L2.tIf tt t u) where
  run := fun O σ H env d env' Q e h' q => by
    simp only [ev, Option.bind_eq_some_iff] at h'
    obtain ⟨⟨c, env1⟩, h1, h2⟩ := h'
    refine hc.run O σ H env c _ _ e h1 fun O1 H1 e1 s1 => ?_
    cases c with
    | true =>
      rw [if_pos rfl] at h2 ⊢
      exact h.run O1 σ H1 env1 d _ _ e1 h2 (q.later e s1)
    | false =>
      rw [if_neg Bool.false_ne_true] at h2 ⊢
      exact k.run O1 σ H1 env1 d _ _ e1 h2 (q.later e s1)
  var := fun i h => by cases h
/-- a < b < c -/
theorem rd_chain {o o' : Op} {r r' : R2} {xc : Ex} {ta tb tc : TE} (ha : RdE K tab R xa ta) (hb : RdE K tab R xb tb) (hc : RdE K tab R xc tc)
    (hr : ∀ {O : Addr → Prop} {H : Hp} {σ : Sl} {env : En} {x y : V} {dx dy d : D} {Q : VK}, EnvRel K O H σ env → BRep K O H x dx → BRep K O H y dy → prim o [dx, dy] = some d → Post K O H σ env env d Q → r x y H Q)
    (hr' : ∀ {O : Addr → Prop} {H : Hp} {σ : Sl} {env : En} {x y : V} {dx dy d : D} {Q : VK}, EnvRel K O H σ env → BRep K O H x dx → BRep K O H y dy → prim o' [dx, dy] = some d → Post K O H σ env env d Q → r' x y H Q) :
    RdE K tab R (.chain o o' (.cons xa (.cons xb .nil)) (.cons xc .nil)) (L2.tChain r r' ta tb tc) where
  run := fun O σ H env d env' Q e h q => by
    simp only [ev, Option.bind_eq_some_iff] at h
    obtain ⟨⟨ws, env1⟩, h1, ds, h2, d1, h3, h4⟩ := h
    dsimp only at h2 h4
    obtain ⟨w, ws', env0, rfl, g1, g2⟩ := evo_cons ha h1
    obtain ⟨w', ws'', env2, rfl, g3, g4⟩ := evo_cons hb g1
    simp only [evo, Option.some.injEq, Prod.mk.injEq] at g3
    obtain ⟨rfl, rfl⟩ := g3
    refine g2 O σ H _ e fun O1 H1 x e1 r1 f1 s1 => g4 O1 σ H1 _ e1 fun O2 H2 y e2 r2 f2 s2 => ?_
    have s12 := s1.trans e.ohp s2
    have b := settle_ok e2 (.cons (r1.step s2) (.cons r2 .nil)) h2
    cases b with
    | cons b1 bt =>
      cases bt with
      | cons b2 bt =>
        cases bt
        refine hr e2 b1 b2 h3 fun O3 H3 v e3 r3 f3 s3 => ?_
        have s13 := s12.trans e.ohp s3
        split at h4
        · cases h4
          have := Rep.bl_inv (show Rep K O3 H3 v (.bl false) from r3)
          exact ⟨false, this, by rw [if_neg Bool.false_ne_true]; exact post_sh e3 (.bl _) (q.later e s13)⟩
        · have := Rep.bl_inv (show Rep K O3 H3 v (.bl true) from r3)
          refine ⟨true, this, ?_⟩
          rw [if_pos rfl]
          simp only [Option.bind_eq_some_iff] at h4
          obtain ⟨⟨ws2, env3⟩, k1, es, k2, d2, k3, k4⟩ := h4
          obtain ⟨w2, ws2', env4, rfl, m1, m2⟩ := evo_cons hc k1
          simp only [evo, Option.some.injEq, Prod.mk.injEq] at m1
          obtain ⟨rfl, rfl⟩ := m1
          refine m2 O3 σ H3 _ e3 fun O4 H4 z e4 r4 f4 s4 => ?_
          have ry := (r2.step s3).step s4
          have b' := settle_ok e4 (.cons ry (.cons r4 .nil)) k2
          cases b' with
          | cons c1 ct =>
            cases ct with
            | cons c2 ct =>
              cases ct
              split at k4
              · next b2 =>
                cases k4
                exact hr' e4 c1 c2 k3 (q.later e (s13.trans e.ohp s4))
              · cases k4
        · cases h4
  var := fun i h => by cases h
end
end Pv

set_option Elab.async false
set_option linter.all false
set_option maxRecDepth 100000
set_option maxHeartbeats 2000000
/-! Pv5: what is walked; targets; comprehensions. -/
namespace Pv
open PySem PySem.Spec
open L2 (V Hp HO VK TE TT TA TS TG TGs TI Ends Cx Inv PE PT PW PA PS PSs PG PGs PI SqL SqT Rd upd upd_same upd_ne Vals RelV Sp XK It R2 OpR CallR IxR SlR UnR Dp DpAll tVar tC tOp tUn tCons tNil tTup tLst tCB tTest)

/-! ### walks -/
/-- J yields the items, one by one, as long as what was only read stays -/
structure Walks (K : Frag) (J : It) (O0 : Addr → Prop) (H0 : Hp) (items : List D) : Prop where
  go : ∀ (i : Nat) (O : Addr → Prop) (H : Hp), Keeps O0 H0 O H → (∀ a, O a → H a ≠ none) → i < items.length → J.go i H ∧ ∀ x H', J.yld i H x H' → ∃ d, items[i]? = some d ∧ (∀ xs, d ≠ .own xs) ∧ Rep K O H' x d ∧ (H' = H ∨ ∃ p u, H p = none ∧ H' = upd H p u)
  stop : ∀ (i : Nat) (O : Addr → Prop) (H : Hp), Keeps O0 H0 O H → items.length ≤ i → J.stop i H

theorem Rep.nn {K : Frag} {O : Addr → Prop} {H : Hp} {v : V} {d : D} (h : Rep K O H v d) : ∀ xs, d ≠ .own xs := fun xs z => by subst z; exact h.notOwn

section walks
variable {K : Frag} {O0 : Addr → Prop} {H0 : Hp} {a b : Addr} {vs ws : List V} {ds es : List D}
/-- how a list, a tuple at a stays readable -/
def StL (K : Frag) (O0 : Addr → Prop) (H0 : Hp) (a : Addr) (vs : List V) : Prop := ∀ O H, Keeps O0 H0 O H → SqL K H a vs ∧ ∀ xs, SqL K H a xs → xs = vs
def StT (K : Frag) (O0 : Addr → Prop) (H0 : Hp) (a : Addr) (vs : List V) : Prop := ∀ O H, Keeps O0 H0 O H → SqT K H a vs
theorem walk_list (st : ∀ O H, Keeps O0 H0 O H → SqL K H a vs) (r : Reps K O0 H0 vs ds) : Walks K (L2.Itl K a) O0 H0 ds where
  go := fun i O H k _ hi => by
    have h := st O H k
    have hi' : i < vs.length := by rw [r.length]; exact hi
    refine ⟨⟨vs, vs[i], h, by simp [hi']⟩, fun x H' y => ?_⟩
    obtain ⟨rfl, y⟩ := y
    obtain ⟨d, h1, h2⟩ := r.getV (y vs h)
    exact ⟨d, h1, h2.nn, h2.ext k, .inl rfl⟩
  stop := fun i O H k hi => ⟨vs, st O H k, by rw [r.length]; exact hi⟩
theorem walk_tup (st : ∀ O H, Keeps O0 H0 O H → SqT K H a vs) (r : Reps K O0 H0 vs ds) : Walks K (L2.Itt K a) O0 H0 ds where
  go := fun i O H k _ hi => by
    have h := st O H k
    have hi' : i < vs.length := by rw [r.length]; exact hi
    refine ⟨⟨vs, vs[i], h, by simp [hi']⟩, fun x H' y => ?_⟩
    obtain ⟨rfl, y⟩ := y
    obtain ⟨d, h1, h2⟩ := r.getV (y vs h)
    exact ⟨d, h1, h2.nn, h2.ext k, .inl rfl⟩
  stop := fun i O H k hi => ⟨vs, st O H k, by rw [r.length]; exact hi⟩
theorem walk_range (lo : Int) (n : Nat) : Walks K (L2.Itr lo n) O0 H0 (rangeL lo n) where
  go := fun i O H k _ hi => by
    have hi' : i < n := by simpa [rangeL] using hi
    refine ⟨hi', fun x H' y => ?_⟩
    obtain ⟨rfl, rfl⟩ := y
    exact ⟨.int (lo + i), by simp [rangeL, hi'], (fun _ z => by cases z), .int _, .inl rfl⟩
  stop := fun i O H k hi => by
    have : n ≤ i := by simpa [rangeL] using hi
    exact this
theorem pair_new {O : Addr → Prop} {H : Hp} {T : Addr} {x y : V} {dx dy : D} (hT : H T = none) (ohp : ∀ a, O a → H a ≠ none) (hx : Rep K O H x dx) (hy : Rep K O H y dy) : Rep K O (upd H T (.tup [x, y])) (.ref T) (.tup [dx, dy]) :=
  .tup upd_same (fun z => ohp T z hT) (by show 2 ≤ sizeLine; decide) (.cons (hx.ext (keeps_upd hT)) (.cons (hy.ext (keeps_upd hT)) .nil))
theorem walk_zipL (st : ∀ O H, Keeps O0 H0 O H → SqL K H a vs) (st' : ∀ O H, Keeps O0 H0 O H → SqL K H b ws) (r : Reps K O0 H0 vs ds) (r' : Reps K O0 H0 ws es) : Walks K (L2.Itz K a b) O0 H0 ((ds.zip es).map fun p => .tup [p.1, p.2]) where
  go := fun i O H k ohp hi => by
    have hi2 : i < ds.length ∧ i < es.length := by simp at hi; omega
    have h := st O H k
    have h' := st' O H k
    have l1 : i < vs.length := by rw [r.length]; exact hi2.1
    have l2 : i < ws.length := by rw [r'.length]; exact hi2.2
    refine ⟨⟨vs, ws, vs[i], ws[i], h, h', by simp [l1], by simp [l2]⟩, fun x H' y => ?_⟩
    obtain ⟨T, p, q, rfl, hT, rfl, y1, y2⟩ := y
    obtain ⟨d, k1, k2⟩ := r.getV (y1 vs h)
    obtain ⟨d', k3, k4⟩ := r'.getV (y2 ws h')
    exact ⟨.tup [d, d'], by simp [k1, k3, List.getElem?_zip_eq_some], (fun _ z => by cases z), pair_new hT ohp (k2.ext k) (k4.ext k), .inr ⟨T, _, hT, rfl⟩⟩
  stop := fun i O H k hi => ⟨vs, ws, st O H k, st' O H k, by rw [r.length, r'.length]; simp at hi; omega⟩
theorem walk_zipT (st : ∀ O H, Keeps O0 H0 O H → SqT K H a vs) (st' : ∀ O H, Keeps O0 H0 O H → SqT K H b ws) (r : Reps K O0 H0 vs ds) (r' : Reps K O0 H0 ws es) : Walks K (RZ.ItzT K a b) O0 H0 ((ds.zip es).map fun p => .tup [p.1, p.2]) where
  go := fun i O H k ohp hi => by
    have hi2 : i < ds.length ∧ i < es.length := by simp at hi; omega
    have h := st O H k
    have h' := st' O H k
    have l1 : i < vs.length := by rw [r.length]; exact hi2.1
    have l2 : i < ws.length := by rw [r'.length]; exact hi2.2
    refine ⟨⟨vs, ws, vs[i], ws[i], h, h', by simp [l1], by simp [l2]⟩, fun x H' y => ?_⟩
    obtain ⟨T, p, q, rfl, hT, rfl, y1, y2⟩ := y
    obtain ⟨d, k1, k2⟩ := r.getV (y1 vs h)
    obtain ⟨d', k3, k4⟩ := r'.getV (y2 ws h')
    exact ⟨.tup [d, d'], by simp [k1, k3, List.getElem?_zip_eq_some], (fun _ z => by cases z), pair_new hT ohp (k2.ext k) (k4.ext k), .inr ⟨T, _, hT, rfl⟩⟩
  stop := fun i O H k hi => ⟨vs, ws, st O H k, st' O H k, by rw [r.length, r'.length]; simp at hi; omega⟩
theorem walk_enum (st : ∀ O H, Keeps O0 H0 O H → SqL K H a vs) (r : Reps K O0 H0 vs ds) : Walks K (L2.Ite K a) O0 H0 (((List.range ds.length).zip ds).map fun (p : Nat × D) => D.tup [.int (p.1 : Int), p.2]) where
  go := fun i O H k ohp hi => by
    have hi2 : i < ds.length := by simpa using hi
    have h := st O H k
    have l1 : i < vs.length := by rw [r.length]; exact hi2
    refine ⟨⟨vs, vs[i], h, by simp [l1]⟩, fun x H' y => ?_⟩
    obtain ⟨T, p, rfl, hT, rfl, y1⟩ := y
    obtain ⟨d, k1, k2⟩ := r.getV (y1 vs h)
    exact ⟨.tup [.int (i : Nat), d], by simp [hi2, List.getElem?_zip_eq_some]; simpa [hi2] using k1, (fun _ z => by cases z), pair_new hT ohp (.int _) (k2.ext k), .inr ⟨T, _, hT, rfl⟩⟩
  stop := fun i O H k hi => ⟨vs, st O H k, by rw [r.length]; simpa using hi⟩
theorem st_lst (h : H0 a = some (.lst vs)) (n : ¬ O0 a) : ∀ O H, Keeps O0 H0 O H → SqL K H a vs := fun O H k => .of (k a _ h n).1
theorem st_rep_lst {v : V} (h : Rep K O0 H0 v (.lst ds)) : ∃ a vs, v = .ref a ∧ (∀ O H, Keeps O0 H0 O H → SqL K H a vs) ∧ Reps K O0 H0 vs ds := by
  cases h with
  | lst h ho hz r => exact ⟨_, _, rfl, st_lst h ho, r⟩
theorem st_rep_rol {v : V} (h : Rep K O0 H0 v (.rol ds)) : ∃ a vs, v = .ref a ∧ (∀ O H, Keeps O0 H0 O H → SqL K H a vs) ∧ Reps K O0 H0 vs ds := by
  cases h with
  | rol h hz r =>
    refine ⟨_, _, rfl, fun O H k => ?_, r⟩
    rcases h with ⟨⟨o, e⟩, ho⟩ | h
    · exact .inl (.inr ⟨o, (k _ _ e ho).1⟩)
    · exact .inr h
theorem st_rep_tup {v : V} (h : Rep K O0 H0 v (.tup ds)) : ∃ a vs, v = .ref a ∧ (∀ O H, Keeps O0 H0 O H → SqT K H a vs) ∧ Reps K O0 H0 vs ds := by
  cases h with
  | tup h ho hz r => exact ⟨_, _, rfl, fun O H k => .of (k _ _ h ho).1, r⟩
  | tupK h r => exact ⟨_, _, rfl, fun O H k => .inr h, r⟩
end walks

/-- a list or a tuple that is walked -/
def iSeq (K : Frag) (tl : TE) : TI := fun σ H R => tl σ H fun x H1 => ∃ a, x = .ref a ∧ ((∃ xs, SqL K H1 a xs) ∧ R (L2.Itl K a) H1 ∨ (∃ xs, SqT K H1 a xs) ∧ R (L2.Itt K a) H1)
theorem pi_seq {X : Cx} {tg l : Expr} {tl : TE} (hl : PE X l tl) : PI X tg l (iSeq X.K tl) := by
  refine ⟨fun pins s σ H R I h => ?_⟩
  refine L2.thn (hl.run pins s σ H _ I h) fun v s1 ⟨x, H1, I1, r1, q1⟩ => ?_
  obtain ⟨a, e, q⟩ := q1
  subst e
  cases r1
  rcases q with ⟨⟨xs, hq⟩, q⟩ | ⟨⟨xs, hq⟩, q⟩
  · obtain ⟨its, rv, p, hz⟩ := I1.list hq
    refine wpAny_pyIter_list p.isList ?_
    refine ⟨s1.heap.objs.size, [s1.heap.objs.size], _, _, H1, rfl, I1.kept (t' := s1.toks) fun b o e => Heap.get?_push_of_some _ e, L2.turn_list a _, ⟨_, Heap.get?_push_size _ rfl, rfl, rfl⟩, fun b hb => ?_, q⟩
    have e : b = s1.heap.objs.size := by simpa using hb
    subst e
    exact I1.fpOk (Nat.le_refl _) (I1.hok.fresh (Nat.le_refl _))
  · obtain ⟨its, rv, p, hz⟩ := I1.tuple hq
    refine wpAny_pyIter_tuple (show s1.heap.IsTuple a its.toArray from p) ?_
    refine ⟨s1.heap.objs.size, [s1.heap.objs.size], _, _, H1, rfl, I1.kept (t' := s1.toks) fun b o e => Heap.get?_push_of_some _ e, L2.turn_tuple a _, ⟨_, Heap.get?_push_size _ rfl, rfl, rfl⟩, fun b hb => ?_, q⟩
    have e : b = s1.heap.objs.size := by simpa using hb
    subst e
    exact I1.fpOk (Nat.le_refl _) (I1.hok.fresh (Nat.le_refl _))

/-- the walk's reading goes as the evaluator tells -/
structure RdI (K : Frag) (tab : Nat → Option Fn) (R : Rn) (k : ItK) (xs : Exs) (wi : TI) : Prop where
  run : ∀ (O : Addr → Prop) (σ : Sl) (H : Hp) (env : En) (ds : List D) (env' : En) (items : List D) (Q : It → Hp → Prop), EnvRel K O H σ env → evs tab R xs env = some (ds, env') → iter k ds = some items →
    (∀ O' H' J, EnvRel K O' H' σ env' → Step O H σ env O' H' σ env' → Walks K J O' H' items → items.length ≤ sizeLine → Q J H') → wi σ H Q
def PId (X : Cx) (sc : Scope) (fnc : Str → Bool) (tab : Nat → Option Fn) (R : Rn) (tg it : Expr) (k : ItK) (xs : Exs) : Prop := ∃ wi, (∀ v, GV sc fnc v → PI (vary X v) tg it wi) ∧ RdI X.K tab R k xs wi

section
variable {K : Frag} {tab : Nat → Option Fn} {R : Rn} {x : Ex} {xs : Exs} {t : TE} {ts : TA}
theorem Rep.len_tup {O : Addr → Prop} {H : Hp} {v : V} {ds : List D} (h : Rep K O H v (.tup ds)) : ds.length ≤ sizeLine := by
  obtain ⟨a, vs, _, _, hz, r⟩ := h.tup_inv
  rw [← r.length]; exact hz
theorem Rep.len_rol {O : Addr → Prop} {H : Hp} {v : V} {ds : List D} (h : Rep K O H v (.rol ds)) : ds.length ≤ sizeLine := by
  obtain ⟨a, vs, _, _, hz, r⟩ := h.rol_inv
  rw [← r.length]; exact hz
theorem Rep.len_lst {O : Addr → Prop} {H : Hp} {v : V} {ds : List D} (h : Rep K O H v (.lst ds)) : ds.length ≤ sizeLine := by
  cases h with
  | lst h ho hz r => rw [← r.length]; exact hz
theorem ri_seq (h : RdE K tab R x t) : RdI K tab R .seq (.cons x .nil) (iSeq K t) where
  run := fun O σ H env ds env' items Q e h1 h2 q => by
    simp only [evs, Option.bind_eq_some_iff, Option.map_eq_some_iff] at h1
    obtain ⟨⟨d, env1⟩, g1, ⟨ds', env2⟩, g2, g3⟩ := h1
    simp only [Option.some.injEq, Prod.mk.injEq] at g2
    obtain ⟨rfl, rfl⟩ := g2
    cases g3
    refine h.run O σ H env d env1 _ e g1 fun O1 H1 v e1 r1 f1 s1 => ?_
    obtain ⟨O2, e2, r2, s2⟩ := strip_ok e e1 r1 f1 s1
    generalize strip d = d' at r2 h2
    cases d' <;> first | (simp [iter] at h2; done) | skip
    · simp [iter] at h2; subst h2
      obtain ⟨a, vs, rfl, st, r⟩ := st_rep_tup r2
      exact ⟨a, rfl, .inr ⟨⟨vs, st _ _ .refl⟩, q O2 H1 _ e2 s2 (walk_tup st r) r2.len_tup⟩⟩
    · simp [iter] at h2; subst h2
      obtain ⟨a, vs, rfl, st, r⟩ := st_rep_lst r2
      exact ⟨a, rfl, .inl ⟨⟨vs, st _ _ .refl⟩, q O2 H1 _ e2 s2 (walk_list st r) r2.len_lst⟩⟩
    · simp [iter] at h2; subst h2
      obtain ⟨a, vs, rfl, st, r⟩ := st_rep_rol r2
      exact ⟨a, rfl, .inl ⟨⟨vs, st _ _ .refl⟩, q O2 H1 _ e2 s2 (walk_list st r) r2.len_rol⟩⟩
theorem ri_range1 (h : RdA K tab R xs ts) : RdI K tab R .range1 xs (L2.iRng1 ts) where
  run := fun O σ H env ds env' items Q e h1 h2 q => by
    refine h.val O σ H env ds env' _ e h1 fun O1 H1 vs e1 r1 s1 => ?_
    unfold iter at h2
    split at h2 <;> first | (simp at *; done) | skip
    next _ j _ =>
    split at h2
    · next hb =>
      cases h2
      cases r1 with
      | cons r rr =>
        cases rr
        have := r.int_inv
        subst this
        exact ⟨j, rfl, hb.1, hb.2.1, q O1 H1 _ e1 s1 (walk_range 0 _) (by simpa [rangeL, ← LIM_eq] using hb.2.2)⟩
    · cases h2
theorem ri_range2 (h : RdA K tab R xs ts) : RdI K tab R .range2 xs (L2.iRng2 ts) where
  run := fun O σ H env ds env' items Q e h1 h2 q => by
    refine h.val O σ H env ds env' _ e h1 fun O1 H1 vs e1 r1 s1 => ?_
    unfold iter at h2
    split at h2 <;> first | (simp at *; done) | skip
    next _ i j _ =>
    split at h2
    · next hb =>
      cases h2
      cases r1 with
      | cons r rr =>
        cases rr with
        | cons r' rr =>
          cases rr
          have := r.int_inv
          subst this
          have := r'.int_inv
          subst this
          exact ⟨i, j, rfl, ⟨hb.1, hb.2.1, hb.2.2.1, hb.2.2.2.1⟩, q O1 H1 _ e1 s1 (walk_range i _) (by simpa [rangeL, ← LIM_eq] using hb.2.2.2.2)⟩
    · cases h2
theorem ri_zip (h : RdA K tab R xs ts) : RdI K tab R .zip xs (RZ.iZipA K ts) where
  run := fun O σ H env ds env' items Q e h1 h2 q => by
    refine h.val O σ H env ds env' _ e h1 fun O1 H1 vs e1 r1 s1 => ?_
    unfold iter at h2
    split at h2 <;> first | (simp at *; done) | skip
    · next as bs hk =>
      cases h2
      cases r1 with
      | cons r rr =>
        cases rr with
        | cons r' rr =>
          cases rr
          obtain ⟨a, vs, rfl, st, ra⟩ := st_rep_lst r
          obtain ⟨b, ws, rfl, st', rb⟩ := st_rep_lst r'
          have hl := r.len_lst
          exact ⟨a, b, vs, ws, rfl, .inl ⟨st _ _ .refl, st' _ _ .refl, q O1 H1 _ e1 s1 (walk_zipL st st' ra rb) (by simp; omega)⟩⟩
    · next as bs hk =>
      cases h2
      cases r1 with
      | cons r rr =>
        cases rr with
        | cons r' rr =>
          cases rr
          obtain ⟨a, vs, rfl, st, ra⟩ := st_rep_tup r
          obtain ⟨b, ws, rfl, st', rb⟩ := st_rep_tup r'
          have hl := r.len_tup
          exact ⟨a, b, vs, ws, rfl, .inr ⟨st _ _ .refl, st' _ _ .refl, q O1 H1 _ e1 s1 (walk_zipT st st' ra rb) (by simp; omega)⟩⟩
theorem ri_enum (h : RdA K tab R xs ts) : RdI K tab R .enum xs (L2.iEnum K ts) where
  run := fun O σ H env ds env' items Q e h1 h2 q => by
    refine h.val O σ H env ds env' _ e h1 fun O1 H1 vs e1 r1 s1 => ?_
    unfold iter at h2
    split at h2 <;> first | (simp at *; done) | skip
    next as hk =>
    cases h2
    cases r1 with
    | cons r rr =>
      cases rr
      obtain ⟨a, vs, rfl, st, ra⟩ := st_rep_lst r
      have hl := r.len_lst
      exact ⟨a, vs, rfl, st _ _ .refl, q O1 H1 _ e1 s1 (walk_enum st ra) (by simpa using hl)⟩
end
end Pv

set_option Elab.async false
set_option linter.all false
set_option maxRecDepth 100000
set_option maxHeartbeats 2000000
/-! Pv6: targets; comprehensions. -/
namespace Pv
open PySem PySem.Spec
open L2 (V Hp HO VK TE TT TA TS TG TGs TI Ends Cx Inv PE PT PW PA PS PSs PG PGs PI SqL SqT Rd upd upd_same upd_ne Vals RelV Sp XK It R2 OpR CallR IxR SlR UnR Dp DpAll tVar tC tOp tUn tCons tNil tTup tLst tCB tTest wipe)

/-! ### targets -/
def Tg.slots : Tg → List Nat
  | .name i => [i]
  | .tup is => is
structure RdG (K : Frag) (tg : Tg) (g : TG) : Prop where
  run : ∀ (O0 : Addr → Prop) (H0 : Hp) (env0 : En) (O : Addr → Prop) (H : Hp) (σ : Sl) (env : En) (v : V) (d : D) (env' : En) (k : Sl → Hp → Prop), EnvRel K O0 H0 σ env0 → EnvRel K O H σ env → VRep K O H σ env v d → Fresh H0 v d →
    Step O0 H0 σ env0 O H σ env → bind1 tg d env = some env' → (∀ O' σ', EnvRel K O' H σ' env' → Step O0 H0 σ env0 O' H σ' env' → (∀ j, j ∉ tg.slots → σ'[j]? = σ[j]?) → k σ' H) → g v σ H k
theorem rg_name {K : Frag} {i : Nat} : RdG K (.name i) (L2.gName i) where
  run := fun O0 H0 env0 O H σ env v d env' k e0 e r f s h q => by
    simp only [bind1, Option.some.injEq] at h
    subst h
    obtain ⟨e', s'⟩ := e.put (i := i) r f s
    exact q O _ e' s' fun j hj => List.getElem?_set_ne (fun z => hj (by simp [Tg.slots, z]))
def gsOf : List Nat → TGs
  | [] => L2.gNil
  | i :: is => L2.gCons (L2.gName i) (gsOf is)
theorem rgs {K : Frag} {O0 : Addr → Prop} {H0 : Hp} {σ0 : Sl} {env0 : En} {O : Addr → Prop} {H : Hp} : ∀ (is : List Nat) (σ : Sl) (env : En) (vs : List V) (ds : List D) (env' : En) (k : Sl → Hp → Prop), EnvRel K O H σ env → Reps K O H vs ds →
    Step O0 H0 σ0 env0 O H σ env → setMany is ds env = some env' → (∀ σ', EnvRel K O H σ' env' → Step O0 H0 σ0 env0 O H σ' env' → (∀ j, j ∉ is → σ'[j]? = σ[j]?) → k σ' H) → gsOf is vs σ H k
  | [], σ, env, vs, ds, env', k, e, r, s, h, q => by
    cases r with
    | nil =>
      simp only [setMany, Option.some.injEq] at h
      subst h
      exact ⟨rfl, q σ e s fun _ _ => rfl⟩
    | cons r t => simp [setMany] at h
  | i :: is, σ, env, vs, ds, env', k, e, r, s, h, q => by
    cases r with
    | nil => simp [setMany] at h
    | cons r t =>
      simp only [setMany] at h
      refine ⟨_, _, rfl, ?_⟩
      obtain ⟨e', s'⟩ := e.put (i := i) (.sh r r.nn) (.of r.nn) s
      refine rgs is _ _ _ _ env' k e' t s' h fun σ' e2 s2 hj => q σ' e2 s2 fun j nj => ?_
      simp only [List.mem_cons, not_or] at nj
      rw [hj j nj.2, List.getElem?_set_ne (Ne.symm nj.1)]
theorem setMany_len : ∀ {is : List Nat} {ds : List D} {env env' : En}, setMany is ds env = some env' → is.length = ds.length
  | [], [], _, _, _ => rfl
  | [], _ :: _, _, _, h => by simp [setMany] at h
  | _ :: _, [], _, _, h => by simp [setMany] at h
  | i :: is, d :: ds, _, _, h => by simp only [setMany] at h; simp [setMany_len h]
def gUnp (K : Frag) (n : Nat) (t : TGs) : TG := fun v σ H Q => L2.gTup K n t v σ H Q ∨ L2.gUnl K n t v σ H Q
theorem pg_unp {X : Cx} {es : List Expr} {k : Nat} {t : TGs} {n : Nat} {pos : Pos} (hc : X.calm = true) (h : PGs X es t) (hn : (assignEach es X.env).length = n) (hst : (assignEach es X.env).findIdx? (·.1) = none) : PG X (.Tuple es k pos) (gUnp X.K n t) := by
  refine ⟨fun pins s σ H v u Q I r hw => ?_⟩
  rcases hw with hw | hw
  · exact (L2.pg_tup hc h hn hst).run pins s σ H v u Q I r hw
  · exact (L2.pg_unl hc h hn hst).run pins s σ H v u Q I r hw
theorem rg_tup {K : Frag} {is : List Nat} : RdG K (.tup is) (gUnp K is.length (gsOf is)) where
  run := fun O0 H0 env0 O H σ env v d env' k e0 e r f s h q => by
    obtain ⟨O1, e1, r1, s1⟩ := strip_ok e0 e r f s
    cases d <;> first | (simp [bind1] at h; done) | skip
    · next ds =>
      simp only [bind1] at h
      obtain ⟨a, vs, rfl, h1, h2, h3⟩ := Rep.tup_inv r1
      exact .inl ⟨a, vs, rfl, h1, by rw [h3.length, setMany_len h], rgs is σ env vs ds env' k e1 h3 s1 h fun σ' e2 s2 hj => q O1 σ' e2 s2 hj⟩
    · next ds =>
      simp only [bind1] at h
      cases r1 with
      | lst h1 ho hz h3 => exact .inr ⟨_, _, rfl, .of h1, by rw [h3.length, setMany_len h], rgs is σ env _ ds env' k e1 h3 s1 h fun σ' e2 s2 hj => q O1 σ' e2 s2 hj⟩
    · next ds =>
      simp only [bind1] at h
      cases r1 with
      | lst h1 ho hz h3 => exact .inr ⟨_, _, rfl, .of h1, by rw [h3.length, setMany_len h], rgs is σ env _ ds env' k e1 h3 s1 h fun σ' e2 s2 hj => q O1 σ' e2 s2 hj⟩

/-! ### wiping -/
theorem wipeE_len {own : List Nat} {env : En} : (wipeE own env).length = env.length := by
  induction own with
  | nil => rfl
  | cons i is ih => simp [wipeE, ih]
theorem wipeE_get {env : En} {i : Nat} {d : D} : ∀ {own : List Nat}, (wipeE own env)[i]? = some (some d) → i ∉ own ∧ env[i]? = some (some d)
  | [], h => ⟨by simp, h⟩
  | j :: js, h => by
    unfold wipeE at h
    rcases get_set_some h with ⟨_, q, _⟩ | ⟨ne, q⟩
    · cases q
    · obtain ⟨h1, h2⟩ := wipeE_get q
      exact ⟨by simp only [List.mem_cons, not_or]; exact ⟨fun e => ne e.symm, h1⟩, h2⟩
theorem wipeE_out {env : En} {i : Nat} : ∀ {own : List Nat}, i ∉ own → (wipeE own env)[i]? = env[i]?
  | [], _ => rfl
  | j :: js, h => by
    simp only [List.mem_cons, not_or] at h
    unfold wipeE
    rw [List.getElem?_set_ne (fun e => h.1 e.symm)]
    exact wipeE_out h.2
theorem wipe_in {σ : Sl} {i : Nat} : ∀ {own : List Nat}, i ∈ own → i < σ.length → (wipe σ own)[i]? = some none
  | j :: js, h, hl => by
    unfold wipe
    by_cases e : j = i
    · subst e
      rw [List.getElem?_set_self (by rw [L2.wipe_length]; exact hl)]
    · rw [List.getElem?_set_ne e]
      rcases List.mem_cons.mp h with z | z
      · exact absurd z.symm e
      · exact wipe_in z hl
theorem wipe_eq {σ σ2 : Sl} {own : List Nat} (hl : σ2.length = σ.length) (h : ∀ j, j ∉ own → σ2[j]? = σ[j]?) : wipe σ2 own = wipe σ own := by
  apply List.ext_getElem?
  intro j
  by_cases hj : j ∈ own
  · by_cases hlt : j < σ.length
    · rw [wipe_in hj hlt, wipe_in hj (by rw [hl]; exact hlt)]
    · rw [List.getElem?_eq_none (by rw [L2.wipe_length, hl]; omega), List.getElem?_eq_none (by rw [L2.wipe_length]; omega)]
  · rw [L2.wipe_out hj, L2.wipe_out hj, h j hj]
theorem Eo_wipe {σ : Sl} {env : En} {own : List Nat} {a : Addr} (h : Eo (wipe σ own) (wipeE own env) a) : Eo σ env a := by
  obtain ⟨i, xs, h1, h2⟩ := h
  obtain ⟨n, h3⟩ := wipeE_get h1
  rw [L2.wipe_out n] at h2
  exact ⟨i, xs, h3, h2⟩
theorem EnvRel.wipe {K : Frag} {O : Addr → Prop} {H : Hp} {σ : Sl} {env : En} (own : List Nat) (e : EnvRel K O H σ env) : EnvRel K O H (L2.wipe σ own) (wipeE own env) where
  len := by rw [wipeE_len, L2.wipe_length]; exact e.len
  sh := fun i d h n => by
    obtain ⟨n1, h1⟩ := wipeE_get h
    rw [L2.wipe_out n1]
    exact e.sh i d h1 n
  ow := fun i xs h => by
    obtain ⟨n1, h1⟩ := wipeE_get h
    rw [L2.wipe_out n1]
    exact e.ow i xs h1
  ne := fun i j xs ys a h1 h2 h3 h4 => by
    obtain ⟨n1, g1⟩ := wipeE_get h1
    obtain ⟨n2, g2⟩ := wipeE_get h2
    rw [L2.wipe_out n1] at h3
    rw [L2.wipe_out n2] at h4
    exact e.ne i j xs ys a g1 g2 h3 h4
  ohp := e.ohp
theorem Step.sub {O O' : Addr → Prop} {H H' : Hp} {σ σ' σ2 : Sl} {env env' env2 : En} (s : Step O H σ env O' H' σ' env') (h : ∀ a, Eo σ2 env2 a → Eo σ' env' a) : Step O H σ env O' H' σ2 env2 := ⟨s.ext, s.frm, s.dom, fun a z => s.new a (h a z)⟩
theorem Step.poke {O O' : Addr → Prop} {H H' : Hp} {σ σ' : Sl} {env env' : En} {p : Addr} {u : HO} (ohp : ∀ a, O a → H a ≠ none) (s : Step O H σ env O' H' σ' env') (hp : H p = none) : Step O H σ env O' (upd H' p u) σ' env' where
  ext := fun a o h n => ⟨by rw [upd_ne (fun z => by rw [z, hp] at h; cases h)]; exact (s.ext a o h n).1, (s.ext a o h n).2⟩
  frm := fun a h n => ⟨(s.frm a h n).1, by rw [upd_ne (fun z => ohp a h (by rw [z]; exact hp))]; exact (s.frm a h n).2⟩
  dom := fun a h => dom_upd a (s.dom a h)
  new := s.new
/-- an owned list that no slot holds is changed -/
theorem EnvRel.touch {K : Frag} {O : Addr → Prop} {H : Hp} {σ : Sl} {env : En} {p : Addr} {u : HO} (e : EnvRel K O H σ env) (o : O p) (n : ¬ Eo σ env p) : EnvRel K O (upd H p u) σ env where
  len := e.len
  sh := fun i d h m => let ⟨v, h1, h2⟩ := e.sh i d h m; ⟨v, h1, h2.ext (fun a o' q m => ⟨by rw [upd_ne (fun z => m (by rw [z]; exact o))]; exact q, m⟩)⟩
  ow := fun i xs h => let ⟨a, vs, h1, h2, h3, h4, h5⟩ := e.ow i xs h; ⟨a, vs, h1, h2, by rw [upd_ne (fun z => n ⟨i, xs, h, by rw [← z]; exact h1⟩)]; exact h3, h4, h5.ext (fun a o' q m => ⟨by rw [upd_ne (fun z => m (by rw [z]; exact o))]; exact q, m⟩)⟩
  ne := e.ne
  ohp := fun a h => dom_upd a (e.ohp a h)
theorem unown_len {own : List Nat} {env : En} : (unown own env).length = env.length := by
  induction own with
  | nil => rfl
  | cons i is ih =>
    simp only [unown]
    split
    · rw [List.length_set]; exact ih
    · exact ih
theorem EnvRel.unown {K : Frag} {O : Addr → Prop} {H : Hp} {σ : Sl} {env : En} (e : EnvRel K O H σ env) : ∀ own : List Nat, ∃ O', EnvRel K O' H σ (unown own env) ∧ Step O H σ env O' H σ (unown own env) ∧ ∀ i ∈ own, ∀ xs, (Pv.unown own env)[i]? ≠ some (some (.own xs))
  | [] => ⟨O, e, .refl, fun i hi => by simp at hi⟩
  | i :: is => by
    obtain ⟨O1, e1, s1, n1⟩ := EnvRel.unown e is
    simp only [Pv.unown]
    split
    · next xs hx =>
      obtain ⟨a, O2, h1, e2, h3, s2⟩ := e1.freeze hx
      refine ⟨O2, e2, s1.trans e.ohp s2, fun j hj ys z => ?_⟩
      rcases get_set_some z with ⟨_, q, _⟩ | ⟨ne, q⟩
      · cases q
      · rcases List.mem_cons.mp hj with w | w
        · exact ne w.symm
        · exact n1 j w ys q
    · next hx =>
      refine ⟨O1, e1, s1, fun j hj ys z => ?_⟩
      rcases List.mem_cons.mp hj with w | w
      · subst w; exact hx ys z
      · exact n1 j w ys z
theorem restore_len {own : List Nat} {old env : En} : (restore own old env).length = env.length := by
  induction own with
  | nil => rfl
  | cons i is ih => simp [restore, ih]
theorem restore_get {old env : En} {i : Nat} {d : D} : ∀ {own : List Nat}, (restore own old env)[i]? = some (some d) → (i ∈ own ∧ old[i]? = some (some d)) ∨ (i ∉ own ∧ env[i]? = some (some d))
  | [], h => .inr ⟨by simp, h⟩
  | j :: js, h => by
    unfold restore at h
    rcases get_set_some h with ⟨rfl, q, _⟩ | ⟨ne, q⟩
    · refine .inl ⟨by simp, ?_⟩
      cases e : old[j]? with
      | none => rw [e] at q; cases q
      | some z => rw [e] at q; simp at q; rw [q]
    · rcases restore_get q with ⟨h1, h2⟩ | ⟨h1, h2⟩
      · exact .inl ⟨List.mem_cons_of_mem _ h1, h2⟩
      · exact .inr ⟨by simp only [List.mem_cons, not_or]; exact ⟨fun e => ne e.symm, h1⟩, h2⟩
theorem Eo_restore {σ : Sl} {old env : En} {own : List Nat} {a : Addr} (n : ∀ i ∈ own, ∀ xs, old[i]? ≠ some (some (.own xs))) (h : Eo σ (restore own old env) a) : Eo (wipe σ own) (wipeE own env) a := by
  obtain ⟨i, xs, h1, h2⟩ := h
  rcases restore_get h1 with ⟨g1, g2⟩ | ⟨g1, g2⟩
  · exact absurd g2 (n i g1 xs)
  · exact ⟨i, xs, by rw [wipeE_out g1]; exact g2, by rw [L2.wipe_out g1]; exact h2⟩
theorem EnvRel.restore {K : Frag} {OU O : Addr → Prop} {HU H : Hp} {σ : Sl} {envU env : En} {own : List Nat} (eU : EnvRel K OU HU σ envU) (k : Keeps OU HU O H) (n : ∀ i ∈ own, ∀ xs, envU[i]? ≠ some (some (.own xs)))
    (e : EnvRel K O H (L2.wipe σ own) (wipeE own env)) : EnvRel K O H σ (Pv.restore own envU env) where
  len := by rw [restore_len]; have := e.len; rw [wipeE_len, L2.wipe_length] at this; exact this
  sh := fun i d h m => by
    rcases restore_get h with ⟨g1, g2⟩ | ⟨g1, g2⟩
    · obtain ⟨v, h1, h2⟩ := eU.sh i d g2 m
      exact ⟨v, h1, h2.ext k⟩
    · obtain ⟨v, h1, h2⟩ := e.sh i d (by rw [wipeE_out g1]; exact g2) m
      exact ⟨v, by rw [L2.wipe_out g1] at h1; exact h1, h2⟩
  ow := fun i xs h => by
    rcases restore_get h with ⟨g1, g2⟩ | ⟨g1, g2⟩
    · exact absurd g2 (n i g1 xs)
    · obtain ⟨a, vs, h1, h2⟩ := e.ow i xs (by rw [wipeE_out g1]; exact g2)
      exact ⟨a, vs, by rw [L2.wipe_out g1] at h1; exact h1, h2⟩
  ne := fun i j xs ys a h1 h2 h3 h4 => by
    rcases restore_get h1 with ⟨g1, g2⟩ | ⟨g1, g2⟩
    · exact absurd g2 (n i g1 xs)
    · rcases restore_get h2 with ⟨g3, g4⟩ | ⟨g3, g4⟩
      · exact absurd g4 (n j g3 ys)
      · exact e.ne i j xs ys a (by rw [wipeE_out g1]; exact g2) (by rw [wipeE_out g3]; exact g4) (by rw [L2.wipe_out g1]; exact h3) (by rw [L2.wipe_out g3]; exact h4)
  ohp := e.ohp
theorem bind1_len {tg : Tg} {d : D} {env env' : En} (h : bind1 tg d env = some env') : env'.length = env.length := by
  have sm : ∀ {is : List Nat} {ds : List D} {env env' : En}, setMany is ds env = some env' → env'.length = env.length := by
    intro is
    induction is with
    | nil => intro ds env env' h; cases ds <;> simp [setMany] at h; rw [h]
    | cons i is ih => intro ds env env' h; cases ds <;> simp [setMany] at h; rw [ih h]; simp
  unfold bind1 at h
  split at h
  · cases h; simp
  · exact sm h
  · exact sm h
  · exact sm h
  · cases h

/-! ### comprehensions -/
section
variable {K : Frag} {tab : Nat → Option Fn} {R : Rn}
theorem rd_comp {own : List Nat} {elt : Ex} {tg : Tg} {k : ItK} {es : Exs} {cond : Tt} {wi : TI} {g : TG} {tt : TT} {te : TE} (hi : RdI K tab R k es wi) (hg : RdG K tg g) (hs : ∀ j ∈ tg.slots, j ∈ own) (hc : RdT K tab R cond tt) (he : RdE K tab R elt te) :
    RdE K tab R (.comp own elt tg k es cond) (L2.tLc wi g tt te own) where
  run := fun O σ H env d env' Q e h q => by
    simp only [ev, Option.bind_eq_some_iff, Option.map_eq_some_iff] at h
    obtain ⟨⟨ds, env1⟩, h1, items, h2, ⟨fin, envF⟩, h3, h4⟩ := h
    cases h4
    refine hi.run O σ H env ds env1 items _ e h1 h2 fun O1 H1 J e1 s1 w hz A0 hD => ?_
    obtain ⟨OU, eU, sU, nU⟩ := e1.unown own
    have eUW := eU.wipe own
    generalize hf : (fun (d : D) (e : En) => (bind1 tg d e).bind fun e1 => (evT tab R cond e1).bind fun b => if b.1 then (ev tab R elt b.2).map fun v => (some (strip v.1), v.2) else some (none, b.2)) = f at h3
    let IV : Nat → Hp → Prop := fun i H => ∃ (O : Addr → Prop) (envE : En) (accV : List V) (accD rest : List D), EnvRel K O H (wipe σ own) (wipeE own envE) ∧ O A0 ∧ ¬ Eo (wipe σ own) (wipeE own envE) A0 ∧ H A0 = some (.lst accV) ∧ Reps K O H accV accD ∧ accV.length ≤ i ∧
      Step OU H1 (wipe σ own) (wipeE own (unown own env1)) O H (wipe σ own) (wipeE own envE) ∧ compL own f (items.drop i) envE = some (rest, envF) ∧ accD ++ rest = fin
    refine ⟨fun i m H => m = items.length - i ∧ i ≤ items.length ∧ IV i H, ⟨items.length, by simp, Nat.zero_le _, ?_⟩, ?_⟩
    · obtain ⟨e2, s2⟩ := eUW.laidO (u := .lst []) hD
      refine ⟨Plus OU A0, unown own env1, [], [], fin, e2, .inr rfl, fun z => ?_, upd_same, .nil, Nat.le_refl _, s2, by simpa using h3, rfl⟩
      obtain ⟨i, xs, z1, z2⟩ := z
      obtain ⟨a, ws, z3, z4, _⟩ := eUW.ow i xs z1
      rw [z2] at z3; cases z3
      exact eUW.ohp A0 z4 hD
    · rintro i m H2 ⟨rfl, hi', O2, envE, accV, accD, rest, e2, oD, nD, hD2, rA, lA, s2, c2, fA⟩
      have kW : Keeps O1 H1 O2 H2 := sU.ext.trans s2.ext
      by_cases hlt : i < items.length
      · obtain ⟨go, yl⟩ := w.go i O2 H2 kW e2.ohp hlt
        refine .inr ⟨go, fun H' => IV (i + 1) H', fun H' hv => ⟨items.length - (i + 1), by omega, rfl, by omega, hv⟩, fun x H' y => ?_⟩
        obtain ⟨d, hd, nd, rd, hH⟩ := yl x H' y
        have hdr : items.drop i = d :: items.drop (i + 1) := by
          have hd' : items[i] = d := by
            rw [List.getElem?_eq_getElem hlt] at hd; exact Option.some.inj hd
          rw [List.drop_eq_getElem_cons hlt, hd']
        rw [hdr] at c2
        simp only [compL, Option.bind_eq_some_iff, Option.map_eq_some_iff] at c2
        obtain ⟨⟨r, en0⟩, c3, ⟨q', envF'⟩, c4, c5⟩ := c2
        cases c5
        rw [← hf] at c3
        simp only [Option.bind_eq_some_iff] at c3
        obtain ⟨en1, b1, ⟨b, en2⟩, b2, b3⟩ := c3
        have st0 : EnvRel K O2 H' (wipe σ own) (wipeE own envE) ∧ Step O2 H2 (wipe σ own) (wipeE own envE) O2 H' (wipe σ own) (wipeE own envE) ∧ H' A0 = H2 A0 := by
          rcases hH with rfl | ⟨p, u, hp, rfl⟩
          · exact ⟨e2, .refl, rfl⟩
          · obtain ⟨z1, z2⟩ := e2.laid (u := u) hp
            exact ⟨z1, z2, upd_ne (fun z => by rw [z, hp] at hD2; cases hD2)⟩
        obtain ⟨e3, s3, hD3⟩ := st0
        refine hg.run O2 H2 _ O2 H' (wipe σ own) (wipeE own envE) x d en1 _ e2 e3 (.sh rd nd) (.of nd) s3 b1 fun O4 σ2 e4 s4 hσ => ?_
        have hl2 : σ2.length = σ.length := by
          have z1 := e4.len
          have z2 := bind1_len b1
          have z3 := e2.len
          rw [L2.wipe_length] at z3
          omega
        have wq : wipe σ2 own = wipe σ own := wipe_eq hl2 fun j hj => by rw [hσ j (fun z => hj (hs j z)), L2.wipe_out hj]
        have wq2 : wipe σ2 own = wipe (wipe σ own) own := by
          rw [wq]
          exact (wipe_eq (L2.wipe_length ..) fun j hj => L2.wipe_out hj).symm
        refine ⟨wq, ?_⟩
        refine hc.run O4 σ2 H' en1 b en2 _ e4 b2 fun O5 H5 e5 s5 => ?_
        have s45 := s4.trans e2.ohp s5
        cases b with
        | true =>
          rw [if_pos rfl] at b3 ⊢
          simp only [Option.map_eq_some_iff] at b3
          obtain ⟨⟨v, en4⟩, b4, b5⟩ := b3
          cases b5
          refine he.run O5 σ2 H5 en2 v en4 _ e5 b4 fun O6 H6 y e6 r6 f6 s6 => ?_
          obtain ⟨O7, e7, r7, s7⟩ := strip_ok e5 e6 r6 f6 s6
          have st := s45.trans e2.ohp s7
          obtain ⟨oD7, hD7⟩ := st.frm A0 oD nD
          have nE : ¬ Eo σ2 en4 A0 := fun z => (st.new A0 z).elim nD (fun z => by rw [hD2] at z; cases z)
          have e8 : EnvRel K O7 H6 (wipe σ own) (wipeE own en4) := by rw [← wq]; exact e7.wipe own
          have nE8 : ¬ Eo (wipe σ own) (wipeE own en4) A0 := fun z => nE (Eo_wipe (own := own) (by rw [wq]; exact z))
          have kp : Keeps O7 H6 O7 (upd H6 A0 (.lst (accV ++ [y]))) := fun a o' z m => ⟨by rw [upd_ne (fun z' => m (by rw [z']; exact oD7))]; exact z, m⟩
          refine ⟨accV, hD7.trans hD2, by omega, O7, en4, accV ++ [y], accD ++ [strip v], q', e8.touch oD7 nE8, oD7, nE8, upd_same, ?_, by simp; omega, ?_, c4, ?_⟩
          · exact ((rA.ext st.ext).append (.cons r7 .nil)).ext kp
          · refine Step.sub ((s2.trans eUW.ohp st).poke eUW.ohp hD) fun a z => ?_
            exact Eo_wipe (own := own) (by rw [wq]; exact z)
          · rw [← fA]; simp
        | false =>
          rw [if_neg Bool.false_ne_true] at b3 ⊢
          cases b3
          obtain ⟨oD7, hD7⟩ := s45.frm A0 oD nD
          have nE : ¬ Eo σ2 en2 A0 := fun z => (s45.new A0 z).elim nD (fun z => by rw [hD2] at z; cases z)
          have e8 : EnvRel K O5 H5 (wipe σ own) (wipeE own en2) := by rw [← wq]; exact e5.wipe own
          refine ⟨O5, en2, accV, accD, q', e8, oD7, fun z => nE (Eo_wipe (own := own) (by rw [wq]; exact z)), hD7.trans hD2, rA.ext s45.ext, by omega, ?_, c4, fA⟩
          exact Step.sub (s2.trans eUW.ohp s45) fun a z => Eo_wipe (own := own) (by rw [wq]; exact z)
      · have hil : i = items.length := by omega
        subst hil
        rw [List.drop_length] at c2
        simp only [compL, Option.some.injEq, Prod.mk.injEq] at c2
        obtain ⟨rfl, rfl⟩ := c2
        rw [List.append_nil] at fA
        subst fA
        refine .inl ⟨w.stop _ O2 H2 kW (Nat.le_refl _), ?_⟩
        have s3 : Step OU H1 σ (unown own env1) O2 H2 σ (restore own (unown own env1) envE) := by
          refine ⟨s2.ext, fun a oa na => s2.frm a oa fun z => na (Eo_wipe z), s2.dom, fun a z => ?_⟩
          rcases s2.new a (Eo_restore nU z) with z | z
          · exact .inl (Eo_wipe z)
          · exact .inr z
        have sAll := (s1.trans e.ohp sU).trans e.ohp s3
        refine q O2 H2 (.ref A0) (eU.restore s2.ext nU e2) ⟨A0, accV, rfl, oD, fun z => nD (Eo_restore nU z), hD2, by omega, rA⟩ (fun xs a _ ea => ?_) sAll
        cases ea
        exact Classical.byContradiction fun z => s1.dom A0 z hD
  var := fun i h => by cases h
end
end Pv

set_option Elab.async false
set_option linter.all false
set_option maxRecDepth 100000
set_option maxHeartbeats 2000000
/-! Pv7: calls of defs; statements. -/
namespace Pv
open PySem PySem.Spec
open L2 (V Hp HO VK TE TT TA TS TG TGs TI Ends Cx Inv PE PT PW PA PS PSs PG PGs PI SqL SqT Rd upd upd_same upd_ne Vals RelV Sp XK It R2 OpR CallR IxR SlR UnR Dp DpAll tVar tC tOp tUn tCons tNil tTup tLst tCB tTest wipe)

/-! ### what a def promises -/
structure Ret (K : Frag) (io : List Nat) (O : Addr → Prop) (H : Hp) (vs : List V) (ds : List D) (O' : Addr → Prop) (H' : Hp) (v : V) (d : D) (os : List (List D)) : Prop where
  ext : Keeps O H O' H'
  frm : ∀ a, O a → ¬ Eo (vs.map some) (ds.map some) a → O' a ∧ H' a = H a
  dom : ∀ a, H a ≠ none → H' a ≠ none
  ohp : ∀ a, O' a → H' a ≠ none
  val : (∀ xs, d ≠ .own xs) → Rep K O' H' v d
  own : ∀ xs, d = .own xs → ∃ a ws, v = .ref a ∧ O' a ∧ H a = none ∧ H' a = some (.lst ws) ∧ ws.length ≤ sizeLine ∧ Reps K O' H' ws xs
  out : ∀ (j k : Nat) (xs : List D), io[j]? = some k → os[j]? = some xs → ∃ a ws, vs[k]? = some (.ref a) ∧ O' a ∧ H' a = some (.lst ws) ∧ ws.length ≤ sizeLine ∧ Reps K O' H' ws xs
def spF (K : Frag) (R : Rn) (f : Nat) (fn : Fn) : Sp := fun vs H Q _ => ∃ O ds d os, vs.length = fn.np ∧ EnvRel K O H (vs.map some) (ds.map some) ∧ (∀ k xs, ds[k]? = some (.own xs) → k ∈ fn.io) ∧ R f ds = some (d, os) ∧
  ∀ O' H' v, Ret K fn.io O H vs ds O' H' v d os → Q v H'

/-- how values come to the parameters -/
inductive ArrV (K : Frag) (all : List V) : List (Sum Nat D) → List V → Prop
  | nil : ArrV K all [] []
  | inl {k : Nat} {v : V} {r : List (Sum Nat D)} {vs : List V} (h : all[k]? = some v) (t : ArrV K all r vs) : ArrV K all (.inl k :: r) (v :: vs)
  | inr {d : D} {v : V} {r : List (Sum Nat D)} {vs : List V} (h : ∀ O H, Rep K O H v d) (t : ArrV K all r vs) : ArrV K all (.inr d :: r) (v :: vs)

theorem paired_get {α β : Type} {F : α → β → Prop} : ∀ {l : List α} {m : List β} {k : Nat} {a : α} {b : β}, Paired F l m → l[k]? = some a → m[k]? = some b → F a b
  | _, _, 0, _, _, .cons h t, e1, e2 => by simp at e1 e2; subst e1 e2; exact h
  | _, _, k + 1, _, _, .cons h t, e1, e2 => paired_get (k := k) t (by simpa using e1) (by simpa using e2)
theorem paired_len {α β : Type} {F : α → β → Prop} : ∀ {l : List α} {m : List β}, Paired F l m → l.length = m.length
  | _, _, .nil => rfl
  | _, _, .cons _ t => congrArg Nat.succ (paired_len t)
theorem paired_app {α β : Type} {F : α → β → Prop} : ∀ {l l' : List α} {m m' : List β}, Paired F l m → Paired F l' m' → Paired F (l ++ l') (m ++ m')
  | _, _, _, _, .nil, s => s
  | _, _, _, _, .cons h t, s => .cons h (paired_app t s)
section
variable {K : Frag} {O : Addr → Prop} {H : Hp} {σ : Sl} {env : En}
theorem arrange_ok {all : List V} {ws : List Opd} (p : Paired (ARep K O H σ) all ws) : ∀ {ord : List (Sum Nat D)} {vs : List V} {as : List Opd}, ArrV K all ord vs → arrange ws ord = some as → Paired (ARep K O H σ) vs as
  | _, _, _, .nil, h => by simp [arrange] at h; subst h; exact .nil
  | _, _, _, .inl h0 t, h => by
    simp only [arrange, Option.bind_eq_some_iff, Option.map_eq_some_iff] at h
    obtain ⟨w, h1, as, h2, rfl⟩ := h
    exact .cons (paired_get p h0 h1) (arrange_ok p t h2)
  | _, _, _, .inr h0 t, h => by
    simp only [arrange, Option.map_eq_some_iff] at h
    obtain ⟨as, h2, rfl⟩ := h
    exact .cons (h0 O H) (arrange_ok p t h2)
theorem argsD_get {io : List Nat} : ∀ {as : List Opd} {k0 : Nat} {ds : List D}, argsD env io k0 as = some ds → as.length = ds.length ∧ ∀ (k : Nat) (d : D), ds[k]? = some d → (∃ i xs, as[k]? = some (.inl i) ∧ d = .own xs ∧ env[i]? = some (some (.own xs)) ∧ k0 + k ∈ io) ∨ (as[k]? = some (.inr d) ∧ k0 + k ∉ io)
  | [], k0, ds, h => by simp [argsD] at h; subst h; exact ⟨rfl, fun k d e => by simp at e⟩
  | .inl i :: r, k0, ds, h => by
    simp only [argsD, Option.ite_none_right_eq_some] at h
    obtain ⟨hk, h⟩ := h
    split at h
    · next xs hx =>
      simp only [Option.map_eq_some_iff] at h
      obtain ⟨ds', h1, rfl⟩ := h
      obtain ⟨l, g⟩ := argsD_get h1
      refine ⟨by simp [l], fun k d e => ?_⟩
      cases k with
      | zero => simp at e; subst e; exact .inl ⟨i, xs, rfl, rfl, hx, by simpa using hk⟩
      | succ k =>
        have := g k d (by simpa using e)
        simpa [Nat.add_assoc, Nat.add_comm 1 k] using this
    · cases h
  | .inr d0 :: r, k0, ds, h => by
    simp only [argsD, Option.ite_none_left_eq_some] at h
    obtain ⟨hk, h⟩ := h
    simp only [Option.map_eq_some_iff] at h
    obtain ⟨ds', h1, rfl⟩ := h
    obtain ⟨l, g⟩ := argsD_get h1
    refine ⟨by simp [l], fun k d e => ?_⟩
    cases k with
    | zero => simp at e; subst e; exact .inr ⟨rfl, by simpa using hk⟩
    | succ k =>
      have := g k d (by simpa using e)
      simpa [Nat.add_assoc, Nat.add_comm 1 k] using this
theorem lent_get {as : List Opd} : ∀ {io ls : List Nat}, lent as io = some ls → ls.length = io.length ∧ ∀ (j k i : Nat), io[j]? = some k → ls[j]? = some i → as[k]? = some (.inl i)
  | [], ls, h => by simp [lent] at h; subst h; exact ⟨rfl, fun j k i e => by simp at e⟩
  | k0 :: r, ls, h => by
    simp only [lent] at h
    split at h
    · next i hi =>
      simp only [Option.map_eq_some_iff] at h
      obtain ⟨is, h1, rfl⟩ := h
      obtain ⟨l, g⟩ := lent_get h1
      refine ⟨by simp [l], fun j k i' e1 e2 => ?_⟩
      cases j with
      | zero => simp at e1 e2; subst e1 e2; exact hi
      | succ j => exact g j k i' (by simpa using e1) (by simpa using e2)
    · cases h
theorem giveBack_get : ∀ {ls : List Nat} {os : List (List D)} {env env' : En}, giveBack ls os env = some env' → ls.Nodup → ls.length = os.length ∧ env'.length = env.length ∧
    ∀ (i : Nat) (d : D), env'[i]? = some (some d) → (∃ (j : Nat) (xs : List D), ls[j]? = some i ∧ os[j]? = some xs ∧ d = .own xs) ∨ (i ∉ ls ∧ env[i]? = some (some d))
  | [], [], env, env', h, _ => by simp [giveBack] at h; subst h; exact ⟨rfl, rfl, fun i d e => .inr ⟨by simp, e⟩⟩
  | [], _ :: _, _, _, h, _ => by simp [giveBack] at h
  | _ :: _, [], _, _, h, _ => by simp [giveBack] at h
  | l :: ls, o :: os, env, env', h, nd => by
    simp only [giveBack] at h
    rw [List.nodup_cons] at nd
    obtain ⟨h1, h2, h3⟩ := giveBack_get h nd.2
    refine ⟨by simp [h1], by rw [h2]; simp, fun i d e => ?_⟩
    rcases h3 i d e with ⟨j, xs, g1, g2, g3⟩ | ⟨g1, g2⟩
    · exact .inl ⟨j + 1, xs, by simpa using g1, by simpa using g2, g3⟩
    · rcases get_set_some g2 with ⟨rfl, q, _⟩ | ⟨ne, q⟩
      · exact .inl ⟨0, o, rfl, rfl, (Option.some.inj q).symm⟩
      · exact .inr ⟨by simp only [List.mem_cons, not_or]; exact ⟨fun z => ne z.symm, g1⟩, q⟩
theorem nodup_get {α : Type} {l : List α} (nd : l.Nodup) {i j : Nat} {a : α} (h1 : l[i]? = some a) (h2 : l[j]? = some a) : i = j := by
  have hi : i < l.length := (List.getElem?_eq_some_iff.mp h1).1
  have hj : j < l.length := (List.getElem?_eq_some_iff.mp h2).1
  have e1 : l[i] = a := (List.getElem?_eq_some_iff.mp h1).2
  have e2 : l[j] = a := (List.getElem?_eq_some_iff.mp h2).2
  exact (List.getElem_inj nd).mp (e1.trans e2.symm)
end

/-- f(e, .., k = v, ..): the call's reading -/
theorem rd_call {K : Frag} {tab : Nat → Option Fn} {R : Rn} {f sh : Nat} {fn : Fn} {shp : Shape} {es ks : Exs} {ta tk : TA} {n m : Nat} {gV : List V → List V → List V} {E : XK} (hf : tab f = some fn) (hsh : fn.shapes[sh]? = some shp) (hn : n = es.len) (hm : m = ks.len)
    (hio : fn.io.Nodup) (harr : ∀ vs zs : List V, vs.length = n → zs.length = m → ArrV K (vs ++ zs) shp.ord (gV vs zs)) (hlen : shp.ord.length = fn.np) (ha : RdA K tab R es ta) (hk : RdA K tab R ks tk) :
    RdE K tab R (.call f sh es ks) (L2.tCallN n m (spF K R f fn) gV E ta tk) where
  run := fun O σ H env d env' Q e h q => by
    simp only [ev, hf, hsh, Option.bind_some, Option.bind_eq_some_iff] at h
    obtain ⟨⟨ws1, env1⟩, h1, ⟨ws2, env2⟩, h2, as, h3, ds, h4, ls, h5, h6⟩ := h
    dsimp only at h2 h3 h4 h6
    simp only [Option.ite_none_right_eq_some, Option.bind_eq_some_iff, Option.map_eq_some_iff] at h6
    obtain ⟨nd, ⟨d', os⟩, h7, env3, h8, h9⟩ := h6
    cases h9
    refine ha.arg O σ H env ws1 env1 _ e h1 fun O1 H1 vs e1 r1 s1 => ?_
    refine hk.arg O1 σ H1 env1 ws2 env2 _ e1 h2 fun O2 H2 zs e2 r2 s2 => ?_
    have s12 := s1.trans e.ohp s2
    have lv : vs.length = n := by
      rw [paired_len r1, hn]; exact evc_len h1
    have lz : zs.length = m := by
      rw [paired_len r2, hm]; exact evc_len h2
    refine ⟨lv, lz, ?_⟩
    have all : Paired (ARep K O2 H2 σ) (vs ++ zs) (ws1 ++ ws2) := paired_app (L2.Paired.mapP r1 fun a b z => z.ext s2.ext) r2
    have av := harr vs zs lv lz
    have pa := arrange_ok all av h3
    generalize gV vs zs = args at av pa ⊢
    obtain ⟨l4, g4⟩ := argsD_get h4
    obtain ⟨l5, g5⟩ := lent_get h5
    obtain ⟨l8, l8', g8⟩ := giveBack_get h8 nd
    have la : args.length = ds.length := by rw [paired_len pa, l4]
    have pgL : ∀ {k i : Nat} {v : V}, args[k]? = some v → as[k]? = some (.inl i) → σ[i]? = some (some v) := fun h1 h2 => by
      have := paired_get pa h1 h2
      exact this
    have pgR : ∀ {k : Nat} {dd : D} {v : V}, args[k]? = some v → as[k]? = some (.inr dd) → Rep K O2 H2 v dd := fun h1 h2 => by
      have := paired_get pa h1 h2
      exact this
    -- an owned argument is a lent slot
    have ownA : ∀ (k : Nat) (xs : List D), ds[k]? = some (.own xs) → ∃ i, as[k]? = some (.inl i) ∧ env2[i]? = some (some (.own xs)) ∧ k ∈ fn.io := fun k xs hk => by
      rcases g4 k _ hk with ⟨i, ys, q1, q2, q3, q4⟩ | ⟨q1, q2⟩
      · cases q2; exact ⟨i, q1, q3, by simpa using q4⟩
      · have hk' : k < args.length := by rw [la]; exact (List.getElem?_eq_some_iff.mp hk).1
        exact absurd (pgR (List.getElem?_eq_getElem hk') q1) Rep.notOwn
    have inLs : ∀ (k i : Nat), as[k]? = some (.inl i) → k ∈ fn.io → i ∈ ls := fun k i h1 h2 => by
      obtain ⟨j, hj⟩ := List.getElem?_of_mem h2
      have hj' : j < ls.length := by rw [l5]; exact (List.getElem?_eq_some_iff.mp hj).1
      have := g5 j k _ hj (List.getElem?_eq_getElem hj')
      rw [h1] at this
      cases this
      exact List.getElem_mem hj'
    have eoA : ∀ a, Eo (args.map some) (ds.map some) a → ∃ (k i : Nat) (xs : List D), as[k]? = some (.inl i) ∧ env2[i]? = some (some (.own xs)) ∧ k ∈ fn.io ∧ args[k]? = some (.ref a) ∧ σ[i]? = some (some (.ref a)) := fun a ⟨k, xs, z1, z2⟩ => by
      have z1' : ds[k]? = some (.own xs) := by
        rw [List.getElem?_map] at z1
        cases hq : ds[k]? with
        | none => rw [hq] at z1; cases z1
        | some y => rw [hq] at z1; simp at z1; rw [z1]
      have z2' : args[k]? = some (.ref a) := by
        rw [List.getElem?_map] at z2
        cases hq : args[k]? with
        | none => rw [hq] at z2; cases z2
        | some y => rw [hq] at z2; simp at z2; rw [z2]
      obtain ⟨i, q1, q2, q3⟩ := ownA k xs z1'
      exact ⟨k, i, xs, q1, q2, q3, z2', pgL z2' q1⟩
    have get_some : ∀ {α : Type} {l : List α} {k : Nat} {y : α}, (l.map some)[k]? = some (some y) → l[k]? = some y := fun {α l k y} z => by
      rw [List.getElem?_map] at z
      cases hq : l[k]? with
      | none => rw [hq] at z; cases z
      | some w => rw [hq] at z; simp at z; rw [z]
    have eA : EnvRel K O2 H2 (args.map some) (ds.map some) := by
      refine ⟨by simp [la], fun k dd hk nn => ?_, fun k xs hk => ?_, fun k k' xs ys a z1 z2 z3 z4 => ?_, e2.ohp⟩
      · have hk := get_some hk
        have hk' : k < args.length := by rw [la]; exact (List.getElem?_eq_some_iff.mp hk).1
        rcases g4 k _ hk with ⟨i, ys, q1, q2, _⟩ | ⟨q1, _⟩
        · exact absurd q2 (nn ys)
        · exact ⟨args[k], by simp [hk'], pgR (List.getElem?_eq_getElem hk') q1⟩
      · have hk := get_some hk
        obtain ⟨i, q1, q2, q3⟩ := ownA k xs hk
        obtain ⟨a, ws, p1, p2⟩ := e2.ow i xs q2
        have hk' : k < args.length := by rw [la]; exact (List.getElem?_eq_some_iff.mp hk).1
        have p3 : σ[i]? = some (some args[k]) := pgL (List.getElem?_eq_getElem hk') q1
        rw [p1] at p3
        refine ⟨a, ws, ?_, p2⟩
        rw [List.getElem?_map, List.getElem?_eq_getElem hk', ← Option.some.inj (Option.some.inj p3)]
        rfl
      · obtain ⟨i, q1, q2, q3⟩ := ownA k xs (get_some z1)
        obtain ⟨i', q1', q2', q3'⟩ := ownA k' ys (get_some z2)
        have p1 : σ[i]? = some (some (.ref a)) := pgL (get_some z3) q1
        have p2 : σ[i']? = some (some (.ref a)) := pgL (get_some z4) q1'
        have ei := e2.ne i i' xs ys a q2 q2' p1 p2
        subst ei
        obtain ⟨j, hj⟩ := List.getElem?_of_mem q3
        obtain ⟨j', hj'⟩ := List.getElem?_of_mem q3'
        have b1 : j < ls.length := by rw [l5]; exact (List.getElem?_eq_some_iff.mp hj).1
        have b2 : j' < ls.length := by rw [l5]; exact (List.getElem?_eq_some_iff.mp hj').1
        have c1 := g5 j k _ hj (List.getElem?_eq_getElem b1)
        have c2 := g5 j' k' _ hj' (List.getElem?_eq_getElem b2)
        rw [q1] at c1
        rw [q1'] at c2
        have c1' : ls[j] = i := by cases c1; rfl
        have c2' : ls[j'] = i := by cases c2; rfl
        have := nodup_get nd (i := j) (j := j') (a := i) (by rw [List.getElem?_eq_getElem b1, c1']) (by rw [List.getElem?_eq_getElem b2, c2'])
        subst this
        rw [hj] at hj'
        exact Option.some.inj hj'
    refine ⟨O2, ds, d', os, ?_, eA, fun k xs hk => (ownA k xs hk).elim fun i z => z.2.2, h7, fun O3 H3 v rt => ?_⟩
    · have l3 : as.length = shp.ord.length := by
        have : ∀ {ws : List Opd} {ord as : List (Sum Nat D)}, arrange ws ord = some as → as.length = ord.length := by
          intro ws ord
          induction ord with
          | nil => intro as h; simp [arrange] at h; simp [h]
          | cons o ord ih =>
            intro as h
            cases o with
            | inl k =>
              simp only [arrange, Option.bind_eq_some_iff, Option.map_eq_some_iff] at h
              obtain ⟨_, _, as', h2, rfl⟩ := h
              simp [ih h2]
            | inr k =>
              simp only [arrange, Option.map_eq_some_iff] at h
              obtain ⟨as', h2, rfl⟩ := h
              simp [ih h2]
        exact this h3
      rw [paired_len pa, l3, hlen]
    · -- behind the call
      have own3 : ∀ (i : Nat) (xs : List D), env'[i]? = some (some (.own xs)) → ∃ ys : List D, env2[i]? = some (some (.own ys)) := fun i xs hi => by
        rcases g8 i _ hi with ⟨j, ys, q1, q2, q3⟩ | ⟨q1, q2⟩
        · have hj : j < fn.io.length := by rw [← l5]; exact (List.getElem?_eq_some_iff.mp q1).1
          have a1 := g5 j _ i (List.getElem?_eq_getElem hj) q1
          have hk' : fn.io[j] < ds.length := by rw [← l4]; exact (List.getElem?_eq_some_iff.mp a1).1
          rcases g4 _ _ (List.getElem?_eq_getElem hk') with ⟨i', zs', b1, b2, b3, _⟩ | ⟨b1, _⟩
          · rw [a1] at b1; cases b1; exact ⟨zs', b3⟩
          · rw [a1] at b1; cases b1
        · exact ⟨xs, q2⟩
      have eo3 : ∀ a, Eo σ env' a → Eo σ env2 a := fun a ⟨i, xs, z1, z2⟩ => by
        obtain ⟨ys, z3⟩ := own3 i xs z1
        exact ⟨i, ys, z3, z2⟩
      have e3 : EnvRel K O3 H3 σ env' := by
        refine ⟨by rw [l8']; exact e2.len, fun i dd hi nn => ?_, fun i xs hi => ?_, fun i j xs ys a z1 z2 z3 z4 => ?_, rt.ohp⟩
        · rcases g8 i _ hi with ⟨j, ys, q1, q2, q3⟩ | ⟨q1, q2⟩
          · exact absurd q3 (nn ys)
          · obtain ⟨w, p1, p2⟩ := e2.sh i dd q2 nn
            exact ⟨w, p1, p2.ext rt.ext⟩
        · rcases g8 i _ hi with ⟨j, ys, q1, q2, q3⟩ | ⟨q1, q2⟩
          · cases q3
            have hj : j < fn.io.length := by rw [← l5]; exact (List.getElem?_eq_some_iff.mp q1).1
            have a1 := g5 j _ i (List.getElem?_eq_getElem hj) q1
            obtain ⟨a, ws, p1, p2⟩ := rt.out j _ xs (List.getElem?_eq_getElem hj) q2
            exact ⟨a, ws, pgL p1 a1, p2⟩
          · obtain ⟨a, ws, p1, p2, p3, p4, p5⟩ := e2.ow i xs q2
            have na : ¬ Eo (args.map some) (ds.map some) a := fun z => by
              obtain ⟨k, i', zs', b1, b2, b3, b4, b5⟩ := eoA a z
              have := e2.ne i i' xs zs' a q2 b2 p1 b5
              subst this
              exact q1 (inLs k _ b1 b3)
            obtain ⟨o3, h3'⟩ := rt.frm a p2 na
            exact ⟨a, ws, p1, o3, h3'.trans p3, p4, p5.ext rt.ext⟩
        · obtain ⟨x1, y1⟩ := own3 i xs z1
          obtain ⟨x2, y2⟩ := own3 j ys z2
          exact e2.ne i j x1 x2 a y1 y2 z3 z4
      have s3 : Step O2 H2 σ env2 O3 H3 σ env' := ⟨rt.ext, fun a oa na => rt.frm a oa fun z => by
          obtain ⟨k, i', zs', b1, b2, b3, b4, b5⟩ := eoA a z
          exact na ⟨i', zs', b2, b5⟩, rt.dom, fun a z => .inl (eo3 a z)⟩
      have sA := s12.trans e.ohp s3
      by_cases hd : ∃ xs, d' = .own xs
      · obtain ⟨xs, rfl⟩ := hd
        obtain ⟨a, ws, p1, p2, p3, p4, p5, p6⟩ := rt.own xs rfl
        refine q O3 H3 v e3 ⟨a, ws, p1, p2, fun z => ?_, p4, p5, p6⟩ (fun ys b _ eb => ?_) sA
        · obtain ⟨i, ys, z1, z2⟩ := eo3 a z
          obtain ⟨b, us, z3, z4, _⟩ := e2.ow i ys z1
          rw [z2] at z3; cases z3
          exact e2.ohp a z4 p3
        · rw [p1] at eb; cases eb
          exact Classical.byContradiction fun z => s12.dom _ z p3
      · have nn : ∀ xs, d' ≠ .own xs := fun xs z => hd ⟨xs, z⟩
        exact q O3 H3 v e3 (.sh (rt.val nn) nn) (.of nn) sA
  var := fun i h => by cases h
end Pv

set_option Elab.async false
set_option linter.all false
set_option maxRecDepth 100000
set_option maxHeartbeats 2000000
/-! Pv8: statements. -/
namespace Pv
open PySem PySem.Spec
open L2 (V Hp HO VK TE TT TA TS TG TGs TI Ends Cx Inv PE PT PW PA PS PSs PG PGs PI SqL SqT Rd upd upd_same upd_ne Vals RelV Sp XK It R2 OpR CallR IxR SlR UnR Dp DpAll tVar tC tOp tUn tCons tNil tTup tLst tCB tTest wipe)

def RFr (H : Hp) (σ : Sl) (env : En) (v : V) (d : D) : Prop := ∀ xs a, d = .own xs → v = .ref a → H a = none ∨ Eo σ env a
/-- what is wanted behind a statement -/
def Wants (K : Frag) (H : Hp) (σ : Sl) (env : En) (O' : Addr → Prop) (H' : Hp) (σ' : Sl) (env' : En) (Dn : Ends) : Flow → Prop
  | .nx => Dn.nx σ' H'
  | .bk => Dn.bk σ' H'
  | .ct => Dn.ct σ' H'
  | .rt d => ∀ v, VRep K O' H' σ' env' v d → RFr H σ env v d → Dn.rt v H'
def SPost (K : Frag) (io : List Nat) (O : Addr → Prop) (H : Hp) (σ : Sl) (env : En) (fl : Flow) (env' : En) (Dn : Ends) : Prop :=
  ∀ O' H' σ', EnvRel K O' H' σ' env' → Step O H σ env O' H' σ' env' → (∀ j ∈ io, σ'[j]? = σ[j]?) → Wants K H σ env O' H' σ' env' Dn fl
theorem SPost.later {K : Frag} {io : List Nat} {O O1 : Addr → Prop} {H H1 : Hp} {σ σ1 : Sl} {env env1 env' : En} {fl : Flow} {Dn : Ends} (e : EnvRel K O H σ env) (q : SPost K io O H σ env fl env' Dn) (s : Step O H σ env O1 H1 σ1 env1) (hj : ∀ j ∈ io, σ1[j]? = σ[j]?) :
    SPost K io O1 H1 σ1 env1 fl env' Dn := fun O2 H2 σ2 e2 s2 h2 => by
  have w := q O2 H2 σ2 e2 (s.trans e.ohp s2) fun j hj' => (h2 j hj').trans (hj j hj')
  cases fl with
  | nx => exact w
  | bk => exact w
  | ct => exact w
  | rt d =>
    intro v hv hf
    refine w v hv fun xs a e1 e3 => ?_
    rcases hf xs a e1 e3 with z | z
    · exact .inl (Classical.byContradiction fun y => s.dom a y z)
    · exact (s.new a z).symm
section
variable (K : Frag) (tab : Nat → Option Fn) (R : Rn) (fu : Nat) (io : List Nat)
structure RdS (s : Sm) (t : TS) : Prop where
  run : ∀ (O : Addr → Prop) (σ : Sl) (H : Hp) (env : En) (fl : Flow) (env' : En) (Dn : Ends), EnvRel K O H σ env → exe tab R fu s env = some (fl, env') → SPost K io O H σ env fl env' Dn → t Dn σ H
structure RdSs (ss : Sms) (t : TS) : Prop where
  run : ∀ (O : Addr → Prop) (σ : Sl) (H : Hp) (env : En) (fl : Flow) (env' : En) (Dn : Ends), EnvRel K O H σ env → exes tab R fu ss env = some (fl, env') → SPost K io O H σ env fl env' Dn → t Dn σ H
end
def PSd (X : Cx) (sc : Scope) (fnc : Str → Bool) (tab : Nat → Option Fn) (R : Rn) (fu : Nat) (io : List Nat) (st : Stmt) (s : Sm) : Prop := ∃ t, (∀ v, GV sc fnc v → PS (vary X v) st t) ∧ RdS X.K tab R fu io s t
def PSsd (X : Cx) (sc : Scope) (fnc : Str → Bool) (tab : Nat → Option Fn) (R : Rn) (fu : Nat) (io : List Nat) (st : List Stmt) (ss : Sms) : Prop := ∃ t, (∀ v, GV sc fnc v → PSs (vary X v) st t) ∧ RdSs X.K tab R fu io ss t

section
variable {K : Frag} {tab : Nat → Option Fn} {R : Rn} {fu : Nat} {io : List Nat}
theorem rss_nil : RdSs K tab R fu io .nil L2.tNext where
  run := fun O σ H env fl env' Dn e h q => by
    simp only [exes, Option.some.injEq, Prod.mk.injEq] at h
    obtain ⟨rfl, rfl⟩ := h
    exact q O H σ e .refl fun _ _ => rfl
theorem rss_cons {s : Sm} {ss : Sms} {t u : TS} (h1 : RdS K tab R fu io s t) (h2 : RdSs K tab R fu io ss u) : RdSs K tab R fu io (.cons s ss) (L2.tSeq t u) where
  run := fun O σ H env fl env' Dn e h q => by
    simp only [exes, Option.bind_eq_some_iff] at h
    obtain ⟨⟨f1, env1⟩, g1, g2⟩ := h
    dsimp only at g2
    refine h1.run O σ H env f1 env1 _ e g1 fun O1 H1 σ1 e1 s1 hj => ?_
    cases f1 with
    | nx => exact h2.run O1 σ1 H1 env1 fl env' Dn e1 g2 (q.later e s1 hj)
    | bk => cases g2; exact q O1 H1 σ1 e1 s1 hj
    | ct => cases g2; exact q O1 H1 σ1 e1 s1 hj
    | rt d => cases g2; exact q O1 H1 σ1 e1 s1 hj
theorem rs_pass : RdS K tab R fu io .pass L2.tNext where
  run := fun O σ H env fl env' Dn e h q => by
    simp only [exe, Option.some.injEq, Prod.mk.injEq] at h
    obtain ⟨rfl, rfl⟩ := h
    exact q O H σ e .refl fun _ _ => rfl
theorem rs_brk : RdS K tab R fu io .brk L2.tBreak where
  run := fun O σ H env fl env' Dn e h q => by
    simp only [exe, Option.some.injEq, Prod.mk.injEq] at h
    obtain ⟨rfl, rfl⟩ := h
    exact q O H σ e .refl fun _ _ => rfl
theorem rs_cnt : RdS K tab R fu io .cnt L2.tCont where
  run := fun O σ H env fl env' Dn e h q => by
    simp only [exe, Option.some.injEq, Prod.mk.injEq] at h
    obtain ⟨rfl, rfl⟩ := h
    exact q O H σ e .refl fun _ _ => rfl
theorem rs_never : RdS K tab R fu io .never L2.tNever where
  run := fun O σ H env fl env' Dn e h q => by simp [exe] at h
theorem rs_expr {x : Ex} {t : TE} (h : RdE K tab R x t) : RdS K tab R fu io (.expr x) (L2.tDrop t) where
  run := fun O σ H env fl env' Dn e h' q => by
    simp only [exe, Option.map_eq_some_iff] at h'
    obtain ⟨⟨d, env1⟩, g1, g2⟩ := h'
    cases g2
    exact h.run O σ H env d env1 _ e g1 fun O1 H1 v e1 r1 f1 s1 => q O1 H1 σ e1 s1 fun _ _ => rfl
theorem rs_ret {x : Ex} {t : TE} (h : RdE K tab R x t) : RdS K tab R fu io (.ret x) (L2.tRet t) where
  run := fun O σ H env fl env' Dn e h' q => by
    by_cases hv : ∃ i, x = .var i
    · obtain ⟨i, rfl⟩ := hv
      simp only [exe] at h'
      split at h'
      · next d hd =>
        cases h'
        -- the slot gives up what it holds
        have eo : ∀ a, Eo σ (env.set i none) a → Eo σ env a := fun a ⟨j, xs, z1, z2⟩ => by
          rcases get_set_some z1 with ⟨_, z, _⟩ | ⟨_, z⟩
          · cases z
          · exact ⟨j, xs, z, z2⟩
        have e1 : EnvRel K O H σ (env.set i none) := by
          refine ⟨by simp [e.len], fun j d' hj n => ?_, fun j xs hj => ?_, fun j k xs ys a h1 h2 h3 h4 => ?_, e.ohp⟩
          · rcases get_set_some hj with ⟨_, z, _⟩ | ⟨_, z⟩
            · cases z
            · exact e.sh j d' z n
          · rcases get_set_some hj with ⟨_, z, _⟩ | ⟨_, z⟩
            · cases z
            · exact e.ow j xs z
          · rcases get_set_some h1 with ⟨_, z, _⟩ | ⟨_, z⟩
            · cases z
            · rcases get_set_some h2 with ⟨_, z', _⟩ | ⟨_, z'⟩
              · cases z'
              · exact e.ne j k xs ys a z z' h3 h4
        have st : Step O H σ env O H σ (env.set i none) := ⟨.refl, fun _ ho _ => ⟨ho, rfl⟩, fun _ hh => hh, fun a z => .inl (eo a z)⟩
        by_cases hd2 : ∃ xs, d = .own xs
        · obtain ⟨xs, rfl⟩ := hd2
          obtain ⟨a, vs, h1, h2, h3, h4, h5⟩ := e.ow i xs hd
          refine h.var i rfl σ H _ _ h1 (q O H σ e1 st (fun _ _ => rfl) _ ⟨a, vs, rfl, h2, fun z => ?_, h3, h4, h5⟩ fun ys b _ eb => ?_)
          · obtain ⟨j, ys, z1, z2⟩ := z
            rcases get_set_some z1 with ⟨_, w, _⟩ | ⟨ne, w⟩
            · cases w
            · exact ne (e.ne i j xs ys a hd w h1 z2)
          · cases eb; exact .inr ⟨i, xs, hd, h1⟩
        · have nn : ∀ xs, d ≠ .own xs := fun xs z => hd2 ⟨xs, z⟩
          obtain ⟨v, h1, h2⟩ := e.sh i d hd nn
          exact h.var i rfl σ H _ v h1 (q O H σ e1 st (fun _ _ => rfl) v (.sh h2 nn) fun xs _ z _ => absurd z (nn xs))
      · cases h'
    · have he' : ((ev tab R x env).map fun r => (Flow.rt r.1, r.2)) = some (fl, env') := by
        cases x <;> first | exact absurd ⟨_, rfl⟩ hv | (simpa only [exe] using h')
      simp only [Option.map_eq_some_iff] at he'
      obtain ⟨⟨d, env1⟩, g1, g2⟩ := he'
      cases g2
      refine h.run O σ H env d env1 _ e g1 fun O1 H1 v e1 r1 f1 s1 => ?_
      exact q O1 H1 σ e1 s1 (fun _ _ => rfl) v r1 fun xs a z1 z2 => .inl (f1 xs a z1 z2)
theorem rs_retn : RdS K tab R fu io .retn L2.tRetN where
  run := fun O σ H env fl env' Dn e h q => by
    simp only [exe, Option.some.injEq, Prod.mk.injEq] at h
    obtain ⟨rfl, rfl⟩ := h
    exact q O H σ e .refl (fun _ _ => rfl) .non (.sh .non fun _ z => by cases z) fun xs _ z _ => by cases z
theorem rs_asg {tg : Tg} {x : Ex} {t : TE} {g : TG} (h : RdE K tab R x t) (hg : RdG K tg g) (hi : ∀ j ∈ tg.slots, j ∉ io) : RdS K tab R fu io (.asg tg x) (L2.tAsg t g) where
  run := fun O σ H env fl env' Dn e h' q => by
    simp only [exe, Option.bind_eq_some_iff, Option.map_eq_some_iff] at h'
    obtain ⟨⟨d, env1⟩, g1, env2, g2, g3⟩ := h'
    cases g3
    refine h.run O σ H env d env1 _ e g1 fun O1 H1 v e1 r1 f1 s1 => ?_
    refine hg.run O H env O1 H1 σ env1 v d env' _ e e1 r1 f1 s1 g2 fun O2 σ2 e2 s2 hj => ?_
    exact q O2 H1 σ2 e2 s2 fun j hj' => hj j fun z => hi j z hj'
theorem rs_par2 {i j : Nat} {xs : Exs} {ta : TA} (h : RdA K tab R xs ta) (hi : i ∉ io) (hj : j ∉ io) : RdS K tab R fu io (.par [i, j] xs) (L2.tPar i j ta) where
  run := fun O σ H env fl env' Dn e h' q => by
    simp only [exe, Option.bind_eq_some_iff, Option.map_eq_some_iff] at h'
    obtain ⟨⟨ds, env1⟩, g1, env2, g2, g3⟩ := h'
    cases g3
    refine h.val O σ H env ds env1 _ e g1 fun O1 H1 vs e1 r1 s1 => ?_
    have := rgs [i, j] σ env1 vs ds env' Dn.nx e1 r1 s1 g2 fun σ2 e2 s2 hk => q O1 H1 σ2 e2 s2 fun k hk' => hk k (by
      simp only [List.mem_cons, List.not_mem_nil, or_false, not_or]
      exact ⟨fun z => hi (by rw [← z]; exact hk'), fun z => hj (by rw [← z]; exact hk')⟩)
    obtain ⟨v, r, rfl, w, r', e2, z1, z2⟩ := this
    subst e2 z1
    exact ⟨v, w, rfl, z2⟩
theorem rs_par3 {i j l : Nat} {xs : Exs} {ta : TA} (h : RdA K tab R xs ta) (hi : i ∉ io) (hj : j ∉ io) (hl : l ∉ io) : RdS K tab R fu io (.par [i, j, l] xs) (L2.tPar3 i j l ta) where
  run := fun O σ H env fl env' Dn e h' q => by
    simp only [exe, Option.bind_eq_some_iff, Option.map_eq_some_iff] at h'
    obtain ⟨⟨ds, env1⟩, g1, env2, g2, g3⟩ := h'
    cases g3
    refine h.val O σ H env ds env1 _ e g1 fun O1 H1 vs e1 r1 s1 => ?_
    have := rgs [i, j, l] σ env1 vs ds env' Dn.nx e1 r1 s1 g2 fun σ2 e2 s2 hk => q O1 H1 σ2 e2 s2 fun k hk' => hk k (by
      simp only [List.mem_cons, List.not_mem_nil, or_false, not_or]
      exact ⟨fun z => hi (by rw [← z]; exact hk'), fun z => hj (by rw [← z]; exact hk'), fun z => hl (by rw [← z]; exact hk')⟩)
    obtain ⟨v, r, rfl, w, r', e2, u, r'', e3, z1, z2⟩ := this
    subst e2 e3 z1
    exact ⟨v, w, u, rfl, z2⟩
theorem rs_aug {i : Nat} {o : Op} {x : Ex} {t : TE} {r : L2.TIp} (h : RdE K tab R x t) (hi : i ∉ io)
    (hr : ∀ (a b z : Int) (H : Hp) (Q : VK), prim o [.int a, .int b] = some (.int z) → Q (.int z) H → r (.int a) (.int b) H Q) (hb : ∀ (a : Int) (d : D) (z : Int), prim o [.int a, d] = some (.int z) → ∃ b, d = .int b) : RdS K tab R fu io (.aug i o x) (L2.tAug i t r) where
  run := fun O σ H env fl env' Dn e h' q => by
    simp only [exe, Option.bind_eq_some_iff] at h'
    obtain ⟨⟨d, env1⟩, g1, p, g2, z, g3, g4⟩ := h'
    dsimp only at g3 g4
    split at g4
    · next a c =>
      cases g4
      obtain ⟨v, hv⟩ := e.slot g2
      have hv2 := Rep.int_inv (e.b g2 hv)
      subst hv2
      refine ⟨_, hv, ?_⟩
      obtain ⟨b, rfl⟩ := hb _ _ _ g3
      refine h.run O σ H env _ env1 _ e g1 fun O1 H1 w e1 r1 f1 s1 => ?_
      have hw := Rep.int_inv (show Rep K O1 H1 w (.int b) from r1)
      subst hw
      refine hr _ _ _ H1 _ g3 ?_
      have n : ∀ xs, D.int c ≠ .own xs := fun _ z => by cases z
      obtain ⟨e2, s2⟩ := e1.put (i := i) (d := .int c) (v := .int c) (.sh (.int c) n) (.of n) s1
      exact q O1 H1 _ e2 s2 fun j hj => List.getElem?_set_ne (fun z => hi (by rw [z]; exact hj))
    · cases g4
theorem rs_put {i : Nat} {xk xe : Ex} {tk te : TE} (hk : RdE K tab R xk tk) (he : RdE K tab R xe te) : RdS K tab R fu io (.put i xk xe) (L2.tAsg te (L2.gSub (tVar i) tk L2.rSetL)) where
  run := fun O σ H env fl env' Dn e h' q => by
    simp only [exe, Option.bind_eq_some_iff] at h'
    obtain ⟨⟨d, env1⟩, g1, p, g0, ⟨dk, env2⟩, g2, g3⟩ := h'
    dsimp only at g0 g2 g3
    split at g3
    · next z xs hx =>
      simp only [Option.map_eq_some_iff] at g3
      obtain ⟨j, g4, g5⟩ := g3
      cases g5
      refine he.run O σ H env d env1 _ e g1 fun O1 H1 v e1 r1 f1 s1 => ?_
      obtain ⟨O1', e1', r1', s1'⟩ := strip_ok e e1 r1 f1 s1
      obtain ⟨o, ho⟩ := e1'.slot g0
      refine ⟨o, ho, hk.run O1' σ H1 env1 _ env2 _ e1' g2 fun O2 H2 w e2 r2 f2 s2 => ?_⟩
      have hw := Rep.int_inv (show Rep K O2 H2 w (.int z) from r2)
      subst hw
      obtain ⟨a, vs, k1, k2, k3, k4, k5⟩ := e2.ow i xs hx
      rw [ho] at k1
      cases k1
      have r3 := r1'.ext s2.ext
      obtain ⟨e4, s4⟩ := e2.write hx ho (ws := vs.set j v) (ys := xs.set j (strip d)) (by simpa using k4) (k5.set r3 j)
      refine ⟨a, vs, z, j, rfl, rfl, k3, ?_, q O2 _ σ e4 ((s1'.trans e.ohp s2).trans e.ohp s4) fun _ _ => rfl⟩
      have : L2.ixN vs.length z = ixN xs.length z := by rw [k5.length]; rfl
      rw [this]; exact g4
    · cases g3
theorem rs_app {i : Nat} {xe : Ex} {te : TE} (he : RdE K tab R xe te) : RdS K tab R fu io (.app i xe) (L2.tDrop (L2.tBM K "list" L2.rAppend (tVar i) (tCons te tNil))) where
  run := fun O σ H env fl env' Dn e h' q => by
    simp only [exe, Option.bind_eq_some_iff] at h'
    obtain ⟨l, g0, g1⟩ := h'
    split at g1
    · next ds =>
      simp only [Option.bind_eq_some_iff] at g1
      obtain ⟨⟨d, env1⟩, g1, g2⟩ := g1
      dsimp only at g2
      split at g2
      · next xs hx =>
        simp only [Option.ite_none_right_eq_some, Option.some.injEq, Prod.mk.injEq] at g2
        obtain ⟨hl, rfl, rfl⟩ := g2
        obtain ⟨o, ho⟩ := e.slot g0
        obtain ⟨a, vs, rfl, b1, b2, b3⟩ := e.b g0 ho
        refine ⟨_, ho, .inl ⟨rfl, vs, .of b1⟩, ?_⟩
        refine he.run O σ H env d env1 _ e g1 fun O1 H1 v e1 r1 f1 s1 => ?_
        obtain ⟨O1', e1', r1', s1'⟩ := strip_ok e e1 r1 f1 s1
        obtain ⟨a', ws, k1, k2, k3, k4, k5⟩ := e1'.ow i xs hx
        rw [ho] at k1
        cases k1
        have hz : ws.length < sizeLine := by rw [k5.length, ← LIM_eq]; exact hl
        obtain ⟨e4, s4⟩ := e1'.write hx ho (ws := ws ++ [v]) (ys := xs ++ [strip d]) (by simp; omega) (k5.append (.cons r1' .nil))
        exact ⟨a, ws, v, rfl, rfl, k3, hz, q O1' _ σ e4 (s1'.trans e.ohp s4) fun _ _ => rfl⟩
      · cases g2
    · cases g1
theorem rs_ite {y : Tt} {tt : TT} {s1 s2 : Sms} {t u : TS} (hc : RdT K tab R y tt) (h1 : RdSs K tab R fu io s1 t) (h2 : RdSs K tab R fu io s2 u) : RdS K tab R fu io (.ite y s1 s2) (L2.tIfS tt t u) where
  run := fun O σ H env fl env' Dn e h' q => by
    simp only [exe, Option.bind_eq_some_iff] at h'
    obtain ⟨⟨c, env1⟩, g1, g2⟩ := h'
    refine hc.run O σ H env c env1 _ e g1 fun O1 H1 e1 s1 => ?_
    cases c with
    | true =>
      rw [if_pos rfl] at g2 ⊢
      exact h1.run O1 σ H1 env1 fl env' Dn e1 g2 (q.later e s1 fun _ _ => rfl)
    | false =>
      rw [if_neg Bool.false_ne_true] at g2 ⊢
      exact h2.run O1 σ H1 env1 fl env' Dn e1 g2 (q.later e s1 fun _ _ => rfl)
theorem rs_whl {y : Tt} {tt : TT} {s1 : Sms} {t : TS} (hc : RdT K tab R y tt) (h1 : RdSs K tab R fu io s1 t) : RdS K tab R fu io (.whl y s1) (L2.tWhile tt t) where
  run := fun O σ H env fl env' Dn e h' q => by
    simp only [exe] at h'
    refine ⟨fun m σ H => ∃ O env, EnvRel K O H σ env ∧ whlL (fun e => evT tab R y e) (fun e => exes tab R fu s1 e) m env = some (fl, env') ∧ SPost K io O H σ env fl env' Dn, ⟨fu, O, env, e, h', q⟩, ?_⟩
    rintro m σ H ⟨O, env, e, h', q⟩
    cases m with
    | zero => simp [whlL] at h'
    | succ m =>
      simp only [whlL, Option.bind_eq_some_iff] at h'
      obtain ⟨⟨c, env1⟩, g1, g2⟩ := h'
      refine hc.run O σ H env c env1 _ e g1 fun O1 H1 e1 st1 => ?_
      cases c with
      | false =>
        rw [if_neg Bool.false_ne_true]
        simp only [Option.some.injEq, Prod.mk.injEq] at g2
        obtain ⟨rfl, rfl⟩ := g2
        exact q O1 H1 σ e1 st1 fun _ _ => rfl
      | true =>
        rw [if_pos rfl]
        simp only [Option.bind_eq_some_iff] at g2
        obtain ⟨⟨f2, env2⟩, g3, g4⟩ := g2
        refine ⟨fun σ' H' => ∃ O env, EnvRel K O H' σ' env ∧ whlL (fun e => evT tab R y e) (fun e => exes tab R fu s1 e) m env = some (fl, env') ∧ SPost K io O H' σ' env fl env' Dn, fun σ' H' hv => ⟨m, Nat.lt_succ_self _, hv⟩, ?_⟩
        have q1 := q.later e st1 fun _ _ => rfl
        refine h1.run O1 σ H1 env1 f2 env2 _ e1 g3 fun O2 H2 σ2 e2 st2 hj => ?_
        cases f2 with
        | nx => exact ⟨O2, env2, e2, g4, q1.later e1 st2 hj⟩
        | ct => exact ⟨O2, env2, e2, g4, q1.later e1 st2 hj⟩
        | bk =>
          simp only [Option.some.injEq, Prod.mk.injEq] at g4
          obtain ⟨rfl, rfl⟩ := g4
          exact q1 O2 H2 σ2 e2 st2 hj
        | rt d =>
          simp only [Option.some.injEq, Prod.mk.injEq] at g4
          obtain ⟨rfl, rfl⟩ := g4
          exact q1 O2 H2 σ2 e2 st2 hj
theorem rs_loop {tg : Tg} {k : ItK} {es : Exs} {s1 : Sms} {wi : TI} {g : TG} {t : TS} (hi : RdI K tab R k es wi) (hg : RdG K tg g) (h1 : RdSs K tab R fu io s1 t) (hio : ∀ j ∈ tg.slots, j ∉ io) : RdS K tab R fu io (.loop tg k es s1) (L2.tFor wi g t) where
  run := fun O σ H env fl env' Dn e h' q => by
    simp only [exe, Option.bind_eq_some_iff] at h'
    obtain ⟨⟨ds, env1⟩, g1, items, g2, g3⟩ := h'
    refine hi.run O σ H env ds env1 items _ e g1 g2 fun O1 H1 J e1 st1 w hz => ?_
    have q1 := q.later e st1 fun _ _ => rfl
    let IV : Nat → Sl → Hp → Prop := fun i σ H => ∃ O env, EnvRel K O H σ env ∧ Keeps O1 H1 O H ∧ forL (fun d e => (bind1 tg d e).bind fun e1 => exes tab R fu s1 e1) (items.drop i) env = some (fl, env') ∧ SPost K io O H σ env fl env' Dn
    refine ⟨fun i m σ H => m = items.length - i ∧ i ≤ items.length ∧ IV i σ H, ⟨items.length, by simp, Nat.zero_le _, O1, env1, e1, .refl, g3, q1⟩, ?_⟩
    rintro i m σ H ⟨rfl, hi', O, env, e, kp, g3, q⟩
    by_cases hlt : i < items.length
    · obtain ⟨go, yl⟩ := w.go i O H kp e.ohp hlt
      refine .inr ⟨go, fun σ' H' => IV (i + 1) σ' H', fun σ' H' hv => ⟨items.length - (i + 1), by omega, rfl, by omega, hv⟩, fun x H' y => ?_⟩
      obtain ⟨d, hd, nd, rd, hH⟩ := yl x H' y
      have hdr : items.drop i = d :: items.drop (i + 1) := by
        have hd' : items[i] = d := by
          rw [List.getElem?_eq_getElem hlt] at hd; exact Option.some.inj hd
        rw [List.drop_eq_getElem_cons hlt, hd']
      rw [hdr] at g3
      simp only [forL, Option.bind_eq_some_iff] at g3
      obtain ⟨⟨f2, env3⟩, ⟨env2, g4, g5⟩, g6⟩ := g3
      have st0 : EnvRel K O H' σ env ∧ Step O H σ env O H' σ env := by
        rcases hH with rfl | ⟨p, u, hp, rfl⟩
        · exact ⟨e, .refl⟩
        · exact e.laid (u := u) hp
      obtain ⟨e0, s0⟩ := st0
      refine hg.run O H env O H' σ env x d env2 _ e e0 (.sh rd nd) (.of nd) s0 g4 fun O2 σ2 e2 st2 hj => ?_
      have q2 := q.later e st2 fun j hj' => hj j fun z => hio j z hj'
      have k2 : Keeps O1 H1 O2 H' := kp.trans st2.ext
      refine h1.run O2 σ2 H' env2 f2 env3 _ e2 g5 fun O3 H3 σ3 e3 st3 hj3 => ?_
      cases f2 with
      | nx => exact ⟨O3, env3, e3, k2.trans st3.ext, g6, q2.later e2 st3 hj3⟩
      | ct => exact ⟨O3, env3, e3, k2.trans st3.ext, g6, q2.later e2 st3 hj3⟩
      | bk =>
        simp only [Option.some.injEq, Prod.mk.injEq] at g6
        obtain ⟨rfl, rfl⟩ := g6
        exact q2 O3 H3 σ3 e3 st3 hj3
      | rt d =>
        simp only [Option.some.injEq, Prod.mk.injEq] at g6
        obtain ⟨rfl, rfl⟩ := g6
        exact q2 O3 H3 σ3 e3 st3 hj3
    · have hil : i = items.length := by omega
      subst hil
      rw [List.drop_length] at g3
      simp only [forL, Option.some.injEq, Prod.mk.injEq] at g3
      obtain ⟨rfl, rfl⟩ := g3
      exact .inl ⟨w.stop _ O H kp (Nat.le_refl _), q O H σ e .refl fun _ _ => rfl⟩
end
end Pv

set_option Elab.async false
set_option linter.all false
set_option maxRecDepth 100000
set_option maxHeartbeats 4000000
/-! Pv9: from the text to the small language, and why its readings are right. -/
namespace Pv
open PySem PySem.Spec
open L2 (V Hp HO VK TE TT TA TS TG TGs TI Ends Cx Inv PE PT PW PA PS PSs PG PGs PI SqL SqT Rd upd upd_same upd_ne Vals RelV Sp XK It R2 OpR CallR IxR SlR UnR Dp DpAll tVar tC tOp tUn tCons tNil tTup tLst tCB tTest wipe Gl Vis Loc)

/-- what is known of a def ahead of its proof: its name, and for each shape of a call how many values stand by place, which by name -/
structure FI where
  name : Str
  shapes : List (Nat × List Str)
structure Cfg where
  N : List Str
  io : List Nat
  fis : List FI
  blt : List Str
  cons : List (Str × D)

structure FnGood (X : Cx) (R : Rn) (f : Nat) (fn : Fn) (fi : FI) : Prop where
  nd : fn.io.Nodup
  ok : ∀ (sh : Nat) (shp : Shape) (npos : Nat) (ks : List Str), fn.shapes[sh]? = some shp → fi.shapes[sh]? = some (npos, ks) → ∃ lv adr fd ps g gV, L2.FnOk X.prog X.w X.K X.mg X.base L2.CX0 lv adr fd ps (spF X.K R f fn) ∧ L2.Room lv X.A ∧ X.mg fi.name = some (.ref adr) ∧
    PySem.W.keepIn X.K (.ref adr) = true ∧ L2.KBn X.K fd ps npos ks g gV ∧ shp.ord.length = fn.np ∧ ∀ vs zs : List V, vs.length = npos → zs.length = ks.length → ArrV X.K (vs ++ zs) shp.ord (gV vs zs)
structure Good (C : Cfg) (tab : Nat → Option Fn) (R : Rn) (X : Cx) : Prop where
  hN : X.N = C.N
  nd : C.N.Nodup
  calm : X.calm = true
  units : X.A.units + 64 < cLine
  blt : ∀ b ∈ C.blt, X.mg b = none
  con : ∀ p ∈ C.cons, ∃ u v, X.mg p.1 = some u ∧ RelV v u ∧ ∀ O H, Rep X.K O H v p.2
  fns : ∀ f fn fi, tab f = some fn → C.fis[f]? = some fi → FnGood X R f fn fi

/-! ### pieces -/
def isStar : Expr → Bool
  | .Starred _ _ => true
  | _ => false
def isSet : Expr → Bool
  | .Set _ _ _ => true
  | _ => false
def isSlice : Expr → Bool
  | .Slice _ _ _ _ => true
  | _ => false
def isComp : Expr → Bool
  | .ListComp _ _ _ _ | .SetComp _ _ _ _ | .DictComp _ _ _ _ _ => true
  | _ => false
theorem star_ok {e : Expr} {es : List Expr} {env : PySem.Env} (h : isStar e = false) : starEach (e :: es) env = (false, eval e env) :: starEach es env := by
  cases e <;> first | rfl | (simp [isStar] at h)
theorem fold_ok {e : Expr} {env : PySem.Env} (h : isSet e = false) : ∀ x, foldedSetIterable e env x = pure x := by
  intro x; cases e <;> first | rfl | (simp [isSet] at h)
theorem mark_ok {e : Expr} {op : CmpOp} (h : isSet e = false) : behindInMarks op e = false := by
  cases e <;> first | rfl | (simp [isSet] at h)
theorem ix_ok {e : Expr} (h : isSlice e = false) : L2.PlainIx e := by
  intro o i; cases e <;> first | rfl | (simp [isSlice] at h)
theorem sw_ok {e : Expr} {t : Option Expr} {l : Nat} {env : PySem.Env} (h : isComp e = false) : swapsWith e t l env = pure false := by
  cases e <;> first | rfl | (simp [isComp] at h)
theorem star_none : ∀ {es : List Expr} {env : PySem.Env} {pos : Pos}, (es.all fun e => !isStar e) = true → (backTo pos (starEach es env)).any (·.1) = false
  | [], _, _, _ => rfl
  | e :: es, env, pos, h => by
    simp only [List.all_cons, Bool.and_eq_true, Bool.not_eq_true'] at h
    rw [star_ok h.1]
    show (false || (backTo pos (starEach es env)).any (·.1)) = false
    rw [Bool.false_or]
    exact star_none h.2

section
variable {C : Cfg} {tab : Nat → Option Fn} {R : Rn} {X : Cx} {sc : Scope} {fnc : Str → Bool}
theorem pad_nil : PAd X sc fnc tab R [] .nil := ⟨_, fun _ _ => L2.pa_nil, rda_nil⟩
theorem pad_cons {e : Expr} {es : List Expr} {x : Ex} {xs : Exs} (h : PEd X sc fnc tab R e x) (hs : PAd X sc fnc tab R es xs) (hn : isStar e = false) : PAd X sc fnc tab R (e :: es) (.cons x xs) := by
  obtain ⟨t, h1, h2⟩ := h
  obtain ⟨ts, h3, h4⟩ := hs
  exact ⟨_, fun v hv => L2.pa_cons (h1 v hv) (h3 v hv) (star_ok hn), rda_cons h2 h4⟩
/-- a list of expressions, by a translation of one -/
def trList (f : Expr → Option Ex) : List Expr → Option Exs
  | [] => some .nil
  | e :: es => if isStar e then none else (f e).bind fun x => (trList f es).map fun xs => .cons x xs
theorem trList_ok {f : Expr → Option Ex} (hf : ∀ e x, f e = some x → PEd X sc fnc tab R e x) : ∀ {es : List Expr} {xs : Exs}, trList f es = some xs → PAd X sc fnc tab R es xs ∧ (es.all fun e => !isStar e) = true ∧ es.length = xs.len
  | [], xs, h => by simp [trList] at h; subst h; exact ⟨pad_nil, rfl, rfl⟩
  | e :: es, xs, h => by
    simp only [trList] at h
    split at h
    · cases h
    · next hn =>
      simp only [Option.bind_eq_some_iff, Option.map_eq_some_iff] at h
      obtain ⟨x, h1, ys, h2, rfl⟩ := h
      obtain ⟨g1, g2, g3⟩ := trList_ok hf h2
      have hn' : isStar e = false := by simpa using hn
      exact ⟨pad_cons (hf e x h1) g1 hn', by simp [hn', g2], by simp [Exs.len, g3]⟩
/-- the same of keywords' values -/
def PKd (X : Cx) (sc : Scope) (fnc : Str → Bool) (tab : Nat → Option Fn) (R : Rn) (ks : List Keyword) (xs : Exs) : Prop := ∃ t, (∀ v, GV sc fnc v → L2.PK (vary X v) ks t) ∧ RdA X.K tab R xs t
def trKws (f : Expr → Option Ex) : List Keyword → Option Exs
  | [] => some .nil
  | ⟨_, e, _⟩ :: es => (f e).bind fun x => (trKws f es).map fun xs => .cons x xs
theorem trKws_ok {f : Expr → Option Ex} (hf : ∀ e x, f e = some x → PEd X sc fnc tab R e x) : ∀ {es : List Keyword} {xs : Exs}, trKws f es = some xs → PKd X sc fnc tab R es xs ∧ es.length = xs.len
  | [], xs, h => by simp [trKws] at h; subst h; exact ⟨⟨_, fun _ _ => L2.pk_nil, rda_nil⟩, rfl⟩
  | ⟨nm, e, p⟩ :: es, xs, h => by
    simp only [trKws, Option.bind_eq_some_iff, Option.map_eq_some_iff] at h
    obtain ⟨x, h1, ys, h2, rfl⟩ := h
    obtain ⟨⟨t, g1, g2⟩, g3⟩ := trKws_ok hf h2
    obtain ⟨u, k1, k2⟩ := hf e x h1
    exact ⟨⟨_, fun v hv => L2.pk_cons (k1 v hv) (g1 v hv), rda_cons k2 g2⟩, by simp [Exs.len, g3]⟩

/-! ### names and constants -/
def idx (N : List Str) (x : Str) : Option Nat := match N with
  | [] => none
  | y :: ys => if y = x then some 0 else (idx ys x).map (· + 1)
theorem idx_ok : ∀ {N : List Str} {x : Str} {i : Nat}, idx N x = some i → N[i]? = some x
  | [], _, _, h => by simp [idx] at h
  | y :: ys, x, i, h => by
    simp only [idx] at h
    split at h
    · next e => cases h; simp [e]
    · simp only [Option.map_eq_some_iff] at h
      obtain ⟨j, h1, rfl⟩ := h
      simpa using idx_ok h1
def visB (sc : Scope) (x : Str) : Bool := match sc.names.lookup x with
  | some .local | some .cell | some .free => true
  | _ => false
theorem vis_ok {v : Vy} (g : GV sc fnc v) {x : Str} (h : visB sc x = true) : Vis v.env.scope x := by
  rw [g.hsc]
  unfold visB at h
  unfold L2.Vis
  split at h <;> first | (left; assumption) | (right; left; assumption) | (right; right; assumption) | cases h
def okName (x : Str) : Bool := !(x == ("__debug__" : Str)) && !(x == ("__classdict__" : Str)) && !(x == ("__name__" : Str))
def trVar (C : Cfg) (sc : Scope) (x : Str) : Option Nat := if visB sc x && okName x then idx C.N x else none
theorem trVar_ok (g : Good C tab R X) {v : Vy} (gv : GV sc fnc v) {x : Str} {i : Nat} {pos : Pos} (h : trVar C sc x = some i) : PE (vary X v) (.Name x pos) (tVar i) := by
  unfold trVar at h
  split at h
  · next hb =>
    simp only [okName, Bool.and_eq_true, Bool.not_eq_true'] at hb
    exact L2.pe_var (show X.N[i]? = some x by rw [g.hN]; exact idx_ok h) (vis_ok gv hb.1) hb.2.1.1 hb.2.1.2
  · cases h
def globB (sc : Scope) (x : Str) : Bool := (match sc.names.lookup x with
  | some .globalImplicit => true
  | _ => false) && okName x
theorem glob_ok {x : Str} (h : globB sc x = true) : (∀ v, GV sc fnc v → Gl (vary X v) x) ∧ (x == ("__debug__" : Str)) = false ∧ x ≠ "__name__" := by
  unfold globB at h
  rw [Bool.and_eq_true] at h
  obtain ⟨h1, h2⟩ := h
  simp only [okName, Bool.and_eq_true, Bool.not_eq_true'] at h2
  refine ⟨fun v g => ?_, h2.1.1, fun z => ?_⟩
  · show v.env.scope.names.lookup x = some .globalImplicit
    rw [g.hsc]
    split at h1
    · assumption
    · cases h1
  · have := h2.2
    rw [z] at this
    simp at this
def lookC (x : Str) : List (Str × D) → Option D
  | [] => none
  | (y, d) :: r => if y = x then some d else lookC x r
theorem lookC_mem {x : Str} {d : D} : ∀ {l : List (Str × D)}, lookC x l = some d → (x, d) ∈ l
  | [], h => by simp [lookC] at h
  | (y, e) :: r, h => by
    simp only [lookC] at h
    split at h
    · next hy => cases h; subst hy; exact List.mem_cons_self
    · exact List.mem_cons_of_mem _ (lookC_mem h)
def trName (C : Cfg) (sc : Scope) (x : Str) : Option Ex := match trVar C sc x with
  | some i => some (.var i)
  | none => if globB sc x then (lookC x C.cons).map .con else none
theorem trName_ok (g : Good C tab R X) {x : Str} {y : Ex} {pos : Pos} (h : trName C sc x = some y) : PEd X sc fnc tab R (.Name x pos) y := by
  unfold trName at h
  split at h
  · next i hi => cases h; exact ⟨_, fun v hv => trVar_ok g hv hi, rd_var⟩
  · split at h
    · next hg =>
      simp only [Option.map_eq_some_iff] at h
      obtain ⟨d, h1, rfl⟩ := h
      obtain ⟨u, v, k1, k2, k3⟩ := g.con _ (lookC_mem h1)
      obtain ⟨g1, g2, _⟩ := glob_ok (X := X) (fnc := fnc) hg
      exact ⟨_, fun v' hv => L2.pe_glob (g1 v' hv) k1 k2 g2, rd_con k3⟩
    · cases h
def trConst : Const → Option Ex
  | .none => some (.con .non)
  | .bool b => some (.con (.bl b))
  | .int i => some (.con (.int i))
  | .str x => if decide (x.length ≤ LIM) && PyData.strOk x then some (.con (.str x)) else none
  | _ => none
theorem trConst_ok {c : Const} {y : Ex} {k : Nat} {pos : Pos} (h : trConst c = some y) : PEd X sc fnc tab R (.Constant c k pos) y := by
  cases c <;> first | (simp [trConst] at h; done) | skip
  · simp [trConst] at h; subst h; exact ⟨_, fun _ _ => L2.pe_non, rd_con fun _ _ => .non⟩
  · simp [trConst] at h; subst h; exact ⟨_, fun _ _ => L2.pe_bl, rd_con fun _ _ => .bl _⟩
  · simp [trConst] at h; subst h; exact ⟨_, fun _ _ => L2.pe_int, rd_con fun _ _ => .int _⟩
  · simp only [trConst, Option.ite_none_right_eq_some, Bool.and_eq_true, decide_eq_true_eq, Option.some.injEq] at h
    obtain ⟨⟨h1, h2⟩, rfl⟩ := h
    exact ⟨_, fun _ _ => L2.pe_str, rd_con fun _ _ => .str (by rw [← LIM_eq]; exact h1) h2⟩

/-! ### operators -/
def binOp : Operator → Option Op
  | .Add => some .add
  | .Sub => some .sub
  | .Mult => some .mul
  | .FloorDiv => some .fdiv
  | .Mod => some .mod
  | .Pow => some .pow
  | _ => none
theorem bin_ok {op : Operator} {o : Op} {a b : Expr} {xa xb : Ex} {pos : Pos} (h : binOp op = some o) (ha : PEd X sc fnc tab R a xa) (hb : PEd X sc fnc tab R b xb) : PEd X sc fnc tab R (.BinOp a op b pos) (.op o (.cons xa (.cons xb .nil))) := by
  obtain ⟨ta, a1, a2⟩ := ha
  obtain ⟨tb, b1, b2⟩ := hb
  cases op <;> first | (simp [binOp] at h; done) | skip
  all_goals (simp [binOp] at h; subst h)
  · exact ⟨_, fun v hv => L2.pe_op (r := rAddP X.K) (L2.op_add.or (L2.op_cat.or L2.op_catA)) (a1 v hv) (b1 v hv), rd_op2 (r := rAddP X.K) a2 b2 (fun _ _ _ z => z) fun e bx hy h q => pr_add e bx hy h q⟩
  · exact ⟨_, fun v hv => L2.pe_op L2.op_sub (a1 v hv) (b1 v hv), rd_op2 a2 b2 (fun _ _ _ z => z) fun e bx hy h q => pr_sub e bx hy h q⟩
  · exact ⟨_, fun v hv => L2.pe_op (r := rMulP) (L2.op_mul.or (L2.op_mulW.or L2.op_rep)) (a1 v hv) (b1 v hv), rd_op2 (r := rMulP) a2 b2 (fun _ _ _ z => z) fun e bx hy h q => pr_mul e bx hy h q⟩
  · exact ⟨_, fun v hv => L2.pe_op L2.op_mod (a1 v hv) (b1 v hv), rd_op2 a2 b2 (fun _ _ _ z => z) fun e bx hy h q => pr_mod e bx hy h q⟩
  · exact ⟨_, fun v hv => L2.pe_op L2.op_pow (a1 v hv) (b1 v hv), rd_op2 a2 b2 (fun _ _ _ z => z) fun e bx hy h q => pr_pow e bx hy h q⟩
  · exact ⟨_, fun v hv => L2.pe_op L2.op_fdivW (a1 v hv) (b1 v hv), rd_op2 a2 b2 (fun _ _ _ z => z) fun e bx hy h q => pr_div e bx hy h q⟩
def cmpOp : CmpOp → Option Op
  | .Eq => some .eq
  | .NotEq => some .ne
  | .Lt => some .lt
  | .LtE => some .le
  | .Gt => some .gt
  | .GtE => some .ge
  | .Is => some .isB
  | .IsNot => some .notB
  | .In => some .inn
  | .NotIn => some .nin
/-- the rule of a comparison -/
theorem cmp_rule (hu : X.A.units + 64 < cLine) {op : CmpOp} {o : Op} (h : cmpOp op = some o) : ∃ r : R2, (∀ v, OpR (vary X v) (compareOp op) r) ∧
    ∀ {O : Addr → Prop} {H : Hp} {σ : Sl} {env : En} {x y : V} {dx dy d : D} {Q : VK}, EnvRel X.K O H σ env → BRep X.K O H x dx → BRep X.K O H y dy → prim o [dx, dy] = some d → Post X.K O H σ env env d Q → r x y H Q := by
  cases op <;> (simp [cmpOp] at h; subst h)
  · exact ⟨_, fun v => L2.op_eqD (X := vary X v) hu, fun e bx hy h q => pr_eq e bx hy h q⟩
  · exact ⟨_, fun v => L2.op_neD (X := vary X v) hu, fun e bx hy h q => pr_ne e bx hy h q⟩
  · exact ⟨_, fun v => L2.op_lt (X := vary X v), fun e bx hy h q => pr_cmp e bx hy h q⟩
  · exact ⟨_, fun v => L2.op_le (X := vary X v), fun e bx hy h q => pr_cmp e bx hy h q⟩
  · exact ⟨_, fun v => L2.op_gt (X := vary X v), fun e bx hy h q => pr_cmp e bx hy h q⟩
  · exact ⟨_, fun v => L2.op_ge (X := vary X v), fun e bx hy h q => pr_cmp e bx hy h q⟩
  · exact ⟨_, fun v => L2.op_isBl (X := vary X v), fun e bx hy h q => pr_isB e bx hy h q⟩
  · exact ⟨_, fun v => L2.op_notBl (X := vary X v), fun e bx hy h q => pr_notB e bx hy h q⟩
  · exact ⟨_, fun v => L2.op_in_seq (X := vary X v), fun e bx hy h q => pr_in e bx hy h q⟩
  · exact ⟨_, fun v => L2.op_notIn_seq (X := vary X v), fun e bx hy h q => pr_in e bx hy h q⟩
theorem cmp_bl {op : CmpOp} {o : Op} {dx dy d : D} (h : cmpOp op = some o) (hp : prim o [dx, dy] = some d) : ∃ b, d = .bl b := by
  cases op <;> (simp [cmpOp] at h; subst h; simp only [prim] at hp)
  · rw [Option.map_eq_some_iff] at hp; obtain ⟨b, _, rfl⟩ := hp; exact ⟨_, rfl⟩
  · rw [Option.map_eq_some_iff] at hp; obtain ⟨b, _, rfl⟩ := hp; exact ⟨_, rfl⟩
  all_goals first
    | (cases dx <;> cases dy <;> simp [pCmp] at hp <;> exact ⟨_, hp.symm⟩)
    | (cases dx <;> cases dy <;> simp [pIsB] at hp <;> exact ⟨_, hp.symm⟩)
    | (cases dy <;> simp [pIn] at hp <;> exact ⟨_, hp.2.symm⟩)
/-- a op b, as a value and as a test -/
theorem cmp_ok (hu : X.A.units + 64 < cLine) {op : CmpOp} {o : Op} {a b : Expr} {xa xb : Ex} {pos : Pos} (h : cmpOp op = some o) (ha : PEd X sc fnc tab R a xa) (hb : PEd X sc fnc tab R b xb) (hs : isSet b = false) :
    PEd X sc fnc tab R (.Compare a [op] [b] pos) (.op o (.cons xa (.cons xb .nil))) ∧ PTd X sc fnc tab R (.Compare a [op] [b] pos) (.val (.op o (.cons xa (.cons xb .nil)))) := by
  obtain ⟨ta, a1, a2⟩ := ha
  obtain ⟨tb, b1, b2⟩ := hb
  obtain ⟨r, r1, r2⟩ := cmp_rule hu h
  have rd : RdE X.K tab R (.op o (.cons xa (.cons xb .nil))) (tOp r ta tb) := rd_op2 (r := r) a2 b2 (fun _ _ _ z => z) r2
  refine ⟨⟨_, fun v hv => L2.pe_cmpR (r1 v) (a1 v hv) (b1 v hv) (mark_ok hs), rd⟩, ⟨_, fun v hv => L2.pt_cmpR (r1 v) (a1 v hv) (b1 v hv) (mark_ok hs), rt_bool rd (fun i z => by cases z) fun env d env' hd => ?_⟩⟩
  simp only [ev, Option.bind_eq_some_iff, Option.map_eq_some_iff] at hd
  obtain ⟨⟨ws, env1⟩, h1, ds, h2, d', h3, h4⟩ := hd
  cases h4
  obtain ⟨w, ws', e1, rfl, h5, _⟩ := evo_cons a2 h1
  obtain ⟨w', ws'', e2, rfl, h6, _⟩ := evo_cons b2 h5
  simp only [evo, Option.some.injEq, Prod.mk.injEq] at h6
  obtain ⟨rfl, rfl⟩ := h6
  have : ∃ dx dy, ds = [dx, dy] := by
    cases w with
    | inl i =>
      simp only [settle, Option.bind_eq_some_iff, Option.map_eq_some_iff] at h2
      obtain ⟨p, _, q, h2, rfl⟩ := h2
      cases w' with
      | inl j =>
        simp only [settle, Option.bind_eq_some_iff, Option.map_eq_some_iff, Option.some.injEq] at h2
        obtain ⟨p', _, q', rfl, rfl⟩ := h2
        exact ⟨_, _, rfl⟩
      | inr j =>
        simp only [settle, Option.map_eq_some_iff, Option.some.injEq] at h2
        obtain ⟨q', rfl, rfl⟩ := h2
        exact ⟨_, _, rfl⟩
    | inr i =>
      simp only [settle, Option.map_eq_some_iff] at h2
      obtain ⟨q, h2, rfl⟩ := h2
      cases w' with
      | inl j =>
        simp only [settle, Option.bind_eq_some_iff, Option.map_eq_some_iff, Option.some.injEq] at h2
        obtain ⟨p', _, q', rfl, rfl⟩ := h2
        exact ⟨_, _, rfl⟩
      | inr j =>
        simp only [settle, Option.map_eq_some_iff, Option.some.injEq] at h2
        obtain ⟨q', rfl, rfl⟩ := h2
        exact ⟨_, _, rfl⟩
  obtain ⟨dx, dy, rfl⟩ := this
  exact cmp_bl h h3
/-- is None, is not None -/
theorem isN_ok {a : Expr} {xa : Ex} {pos p2 : Pos} {k : Nat} (ha : PEd X sc fnc tab R a xa) :
    PEd X sc fnc tab R (.Compare a [.Is] [.Constant .none k p2] pos) (.op .isN (.cons xa .nil)) ∧ PTd X sc fnc tab R (.Compare a [.Is] [.Constant .none k p2] pos) (.val (.op .isN (.cons xa .nil))) := by
  obtain ⟨ta, a1, a2⟩ := ha
  have rd : RdE X.K tab R (.op .isN (.cons xa .nil)) (L2.tIsN ta) := rd_op1 (r := fun x H Q => Q (.bl (decide (x = .non))) H) a2 (fun _ _ _ z => z) fun e bx h q => pr_isN e bx h q
  refine ⟨⟨_, fun v hv => L2.pe_cmp (L2.pc_isN (a1 v hv)) rfl, rd⟩, ⟨_, fun v hv => L2.pt_cmp (L2.pc_isN (a1 v hv)) rfl, rt_bool rd (fun i z => by cases z) fun env d env' hd => ?_⟩⟩
  simp only [ev, Option.bind_eq_some_iff, Option.map_eq_some_iff] at hd
  obtain ⟨⟨ws, env1⟩, h1, ds, h2, d', h3, h4⟩ := hd
  cases h4
  unfold prim at h3
  split at h3 <;> first | (simp at *; done) | (cases h3; exact ⟨_, rfl⟩)
theorem notN_ok {a : Expr} {xa : Ex} {pos p2 : Pos} {k : Nat} (ha : PEd X sc fnc tab R a xa) :
    PEd X sc fnc tab R (.Compare a [.IsNot] [.Constant .none k p2] pos) (.op .notN (.cons xa .nil)) ∧ PTd X sc fnc tab R (.Compare a [.IsNot] [.Constant .none k p2] pos) (.val (.op .notN (.cons xa .nil))) := by
  obtain ⟨ta, a1, a2⟩ := ha
  have rd : RdE X.K tab R (.op .notN (.cons xa .nil)) (L2.tNotN ta) := rd_op1 (r := fun x H Q => Q (.bl (!decide (x = .non))) H) a2 (fun _ _ _ z => z) fun e bx h q => pr_notN e bx h q
  refine ⟨⟨_, fun v hv => L2.pe_cmp (L2.pc_notN (a1 v hv)) rfl, rd⟩, ⟨_, fun v hv => L2.pt_cmp (L2.pc_notN (a1 v hv)) rfl, rt_bool rd (fun i z => by cases z) fun env d env' hd => ?_⟩⟩
  simp only [ev, Option.bind_eq_some_iff, Option.map_eq_some_iff] at hd
  obtain ⟨⟨ws, env1⟩, h1, ds, h2, d', h3, h4⟩ := hd
  cases h4
  unfold prim at h3
  split at h3 <;> first | (simp at *; done) | (cases h3; exact ⟨_, rfl⟩)
/-- a op b op' c -/
theorem chain_ok (hu : X.A.units + 64 < cLine) {op op' : CmpOp} {o o' : Op} {a b c : Expr} {xa xb xc : Ex} {pos : Pos} (h : cmpOp op = some o) (h' : cmpOp op' = some o') (ha : PEd X sc fnc tab R a xa) (hb : PEd X sc fnc tab R b xb) (hc : PEd X sc fnc tab R c xc) (hs : isSet c = false) :
    PEd X sc fnc tab R (.Compare a [op, op'] [b, c] pos) (.chain o o' (.cons xa (.cons xb .nil)) (.cons xc .nil)) ∧ PTd X sc fnc tab R (.Compare a [op, op'] [b, c] pos) (.val (.chain o o' (.cons xa (.cons xb .nil)) (.cons xc .nil))) := by
  obtain ⟨ta, a1, a2⟩ := ha
  obtain ⟨tb, b1, b2⟩ := hb
  obtain ⟨tc, c1, c2⟩ := hc
  obtain ⟨r, r1, r2⟩ := cmp_rule hu h
  obtain ⟨r', r1', r2'⟩ := cmp_rule hu h'
  have rd : RdE X.K tab R (.chain o o' (.cons xa (.cons xb .nil)) (.cons xc .nil)) (L2.tChain r r' ta tb tc) := rd_chain (r := r) (r' := r') a2 b2 c2 r2 r2'
  have hm : lastMarks [op, op'] [b, c] = false := mark_ok (op := op') hs
  refine ⟨⟨_, fun v hv => L2.pe_chain (r1 v) (r1' v) (a1 v hv) (b1 v hv) (c1 v hv) hm, rd⟩, ⟨_, fun v hv => L2.pt_chain (r1 v) (r1' v) (a1 v hv) (b1 v hv) (c1 v hv) hm, rt_bool rd (fun i z => by cases z) fun env d env' hd => ?_⟩⟩
  simp only [ev, Option.bind_eq_some_iff] at hd
  obtain ⟨⟨ws, env1⟩, h1, ds, h2, d1, h3, h4⟩ := hd
  split at h4
  · cases h4; exact ⟨_, rfl⟩
  · simp only [Option.bind_eq_some_iff] at h4
    obtain ⟨_, _, _, _, d2, _, k4⟩ := h4
    split at k4
    · cases k4; exact ⟨_, rfl⟩
    · cases k4
  · cases h4

/-! ### subscripts -/
theorem idx_ok' {a b : Expr} {xa xb : Ex} {pos : Pos} (ha : PEd X sc fnc tab R a xa) (hb : PEd X sc fnc tab R b xb) (hs : isSlice b = false) : PEd X sc fnc tab R (.Subscript a b pos) (.op .idx (.cons xa (.cons xb .nil))) := by
  obtain ⟨ta, a1, a2⟩ := ha
  obtain ⟨tb, b1, b2⟩ := hb
  exact ⟨_, fun v hv => L2.pe_ix (r := rIdxP X.K) (L2.ix_list.or L2.ix_tup) (a1 v hv) (b1 v hv) (ix_ok hs), rd_op2 (r := rIdxP X.K) a2 b2 (fun _ _ _ z => z) fun e bx hy h q => pr_idx e bx hy h q⟩
theorem slice_rule : SlR X (rSlP X.K) := L2.sl_list.or L2.sl_tupA
/-- a slice's part -/
structure RdP (K : Frag) (tab : Nat → Option Fn) (R : Rn) (xs : Exs) (t : L2.TO) : Prop where
  run : ∀ (O : Addr → Prop) (σ : Sl) (H : Hp) (env : En) (ds : List D) (env' : En) (p : Option Int) (Q : Option Int → Hp → Prop), EnvRel K O H σ env → evs tab R xs env = some (ds, env') → part ds = some p →
    (∀ O' H', EnvRel K O' H' σ env' → Step O H σ env O' H' σ env' → Q p H') → t σ H Q
theorem rp_none {K : Frag} : RdP K tab R .nil L2.tNoPart where
  run := fun O σ H env ds env' p Q e h hp q => by
    simp only [evs, Option.some.injEq, Prod.mk.injEq] at h
    obtain ⟨rfl, rfl⟩ := h
    simp only [part, Option.some.injEq] at hp
    subst hp
    exact q O H e .refl
theorem rp_some {K : Frag} {x : Ex} {t : TE} (h : RdE K tab R x t) : RdP K tab R (.cons x .nil) (L2.tPart t) where
  run := fun O σ H env ds env' p Q e h' hp q => by
    simp only [evs, Option.bind_eq_some_iff, Option.map_eq_some_iff] at h'
    obtain ⟨⟨d, env1⟩, g1, ⟨ds', env2⟩, g2, g3⟩ := h'
    simp only [Option.some.injEq, Prod.mk.injEq] at g2
    obtain ⟨rfl, rfl⟩ := g2
    cases g3
    refine h.run O σ H env d env1 _ e g1 fun O1 H1 v e1 r1 f1 s1 => ?_
    cases d <;> first | (simp [part, strip] at hp; done) | skip
    next i =>
      simp only [part, strip, Option.some.injEq] at hp
      subst hp
      exact ⟨i, Rep.int_inv (show Rep K O1 H1 v (.int i) from r1), q O1 H1 e1 s1⟩
def POd (X : Cx) (sc : Scope) (fnc : Str → Bool) (tab : Nat → Option Fn) (R : Rn) (e : Option Expr) (xs : Exs) : Prop := ∃ t, (∀ v, GV sc fnc v → L2.PO (vary X v) e t) ∧ RdP X.K tab R xs t
theorem slice_ok {a : Expr} {lo hi : Option Expr} {xa : Ex} {xl xh : Exs} {pos p2 : Pos} (ha : PEd X sc fnc tab R a xa) (hl : POd X sc fnc tab R lo xl) (hh : POd X sc fnc tab R hi xh) : PEd X sc fnc tab R (.Subscript a (.Slice lo hi none p2) pos) (.slc (.cons xa .nil) xl xh) := by
  obtain ⟨ta, a1, a2⟩ := ha
  obtain ⟨tl, b1, b2⟩ := hl
  obtain ⟨th, c1, c2⟩ := hh
  refine ⟨L2.tSl (rSlP X.K) ta tl th, fun v hv => L2.pe_slice (r := rSlP X.K) (slice_rule (X := vary X v)) (a1 v hv) (b1 v hv) (c1 v hv), ⟨fun O σ H env d env' Q e h q => ?_, fun i h => by cases h⟩⟩
  simp only [ev, Option.bind_eq_some_iff, Option.map_eq_some_iff] at h
  obtain ⟨⟨ws, env1⟩, h1, ⟨ls, env2⟩, h2, ⟨hs, env3⟩, h3, p, h4, r, h5, ds, h6, d', h7, h8⟩ := h
  cases h8
  obtain ⟨w, ws', env0, rfl, g1, g2⟩ := evo_cons a2 h1
  simp only [evo, Option.some.injEq, Prod.mk.injEq] at g1
  obtain ⟨rfl, rfl⟩ := g1
  refine g2 O σ H _ e fun O1 H1 v e1 r1 f1 s1 => ?_
  refine b2.run O1 σ H1 _ ls env2 p _ e1 h2 h4 fun O2 H2 e2 s2 => ?_
  refine c2.run O2 σ H2 env2 hs env3 r _ e2 h3 h5 fun O3 H3 e3 s3 => ?_
  have b := settle_ok e3 (.cons ((r1.step s2).step s3) .nil) h6
  cases b with
  | cons b1 bt =>
    cases bt
    exact pr_slice e3 b1 h7 (q.later e ((s1.trans e.ohp s2).trans e.ohp s3))

/-! ### calls of built-ins -/
def blt1 (x : Str) : Option Op :=
  if x = "len" then some .len else if x = "int" then some .intv else if x = "abs" then some .absv else if x = "sum" then some .sum else if x = "any" then some .anyv
  else if x = "all" then some .allv else if x = "tuple" then some .tupv else if x = "list" then some .lstv else none
def blt2 (x : Str) : Option Op := if x = "max" then some .max2 else if x = "min" then some .min2 else none
theorem blt1_ok (g : Good C tab R X) {x : Str} {o : Op} {a : Expr} {xa : Ex} {p pos : Pos} (h : blt1 x = some o) (hg : globB sc x = true) (hb : x ∈ C.blt) (ha : PEd X sc fnc tab R a xa) (hn : isStar a = false) :
    PEd X sc fnc tab R (.Call (.Name x p) [a] [] pos) (.op o (.cons xa .nil)) := by
  obtain ⟨ta, a1, a2⟩ := ha
  obtain ⟨g1, g2, g3⟩ := glob_ok (X := X) (fnc := fnc) hg
  have hm := g.blt x hb
  have pa : ∀ v, GV sc fnc v → PA (vary X v) [a] (tCons ta tNil) := fun v hv => L2.pa_cons (a1 v hv) L2.pa_nil (star_ok hn)
  unfold blt1 at h
  split at h
  · next e => subst e; cases h; exact ⟨tCB (fun xs H Q => ∃ x n, xs = [x] ∧ L2.LenV X.K x H n ∧ Q (.int n) H) (tCons ta tNil), fun v hv => L2.pe_callB (id := "len") (r := fun xs H Q => ∃ x n, xs = [x] ∧ L2.LenV X.K x H n ∧ Q (.int n) H) (L2.call_len (X := vary X v)) (g1 v hv) hm PySem.boot_len (pa v hv) g3 g2 (star_ok hn) rfl, rd_op1 (r := fun x H Q => ∃ z n, [x] = [z] ∧ L2.LenV X.K z H n ∧ Q (.int n) H) a2 (fun _ _ _ z => z) fun e bx h q => pr_len e bx h q⟩
  split at h
  · next e => subst e; cases h; exact ⟨tCB (fun xs H Q => (∃ i, xs = [V.int i] ∧ Q (.int i) H) ∨ ∃ k, xs = [V.bl k] ∧ Q (.int (if k then 1 else 0)) H) (tCons ta tNil), fun v hv => L2.pe_callTy (T := "int") (r := fun xs H Q => (∃ i, xs = [V.int i] ∧ Q (.int i) H) ∨ ∃ k, xs = [V.bl k] ∧ Q (.int (if k then 1 else 0)) H) (L2.call_int1 (X := vary X v)) (g1 v hv) hm (by decide +kernel) (pa v hv) g3 g2 (star_ok hn) rfl, rd_op1 (r := fun x H Q => (∃ i, [x] = [V.int i] ∧ Q (.int i) H) ∨ ∃ k, [x] = [V.bl k] ∧ Q (.int (if k then 1 else 0)) H) a2 (fun _ _ _ z => z) fun e bx h q => pr_int e bx h q⟩
  split at h
  · next e => subst e; cases h; exact ⟨tCB (fun xs H Q => ∃ i, xs = [V.int i] ∧ Q (.int (if i < 0 then -i else i)) H) (tCons ta tNil), fun v hv => L2.pe_callB (id := "abs") (r := fun xs H Q => ∃ i, xs = [V.int i] ∧ Q (.int (if i < 0 then -i else i)) H) (L2.call_abs (X := vary X v)) (g1 v hv) hm (by decide +kernel) (pa v hv) g3 g2 (star_ok hn) rfl, rd_op1 (r := fun x H Q => ∃ i, [x] = [V.int i] ∧ Q (.int (if i < 0 then -i else i)) H) a2 (fun _ _ _ z => z) fun e bx h q => pr_abs e bx h q⟩
  split at h
  · next e => subst e; cases h; exact ⟨tCB (L2.rSum X.K) (tCons ta tNil), fun v hv => L2.pe_callB (id := "sum") (r := L2.rSum X.K) (L2.cr_sum (X := vary X v) g.calm) (g1 v hv) hm (by decide +kernel) (pa v hv) g3 g2 (star_ok hn) rfl, rd_op1 (r := fun x H Q => L2.rSum X.K [x] H Q) a2 (fun _ _ _ z => z) fun e bx h q => pr_sum e bx h q⟩
  split at h
  · next e => subst e; cases h; exact ⟨tCB (L2.rAny X.K) (tCons ta tNil), fun v hv => L2.pe_callB (id := "any") (r := L2.rAny X.K) (L2.cr_any (X := vary X v) g.calm) (g1 v hv) hm (by decide +kernel) (pa v hv) g3 g2 (star_ok hn) rfl, rd_op1 (r := fun x H Q => L2.rAny X.K [x] H Q) a2 (fun _ _ _ z => z) fun e bx h q => pr_any e bx h q⟩
  split at h
  · next e => subst e; cases h; exact ⟨tCB (L2.rAll X.K) (tCons ta tNil), fun v hv => L2.pe_callB (id := "all") (r := L2.rAll X.K) (L2.cr_all (X := vary X v) g.calm) (g1 v hv) hm (by decide +kernel) (pa v hv) g3 g2 (star_ok hn) rfl, rd_op1 (r := fun x H Q => L2.rAll X.K [x] H Q) a2 (fun _ _ _ z => z) fun e bx h q => pr_all e bx h q⟩
  split at h
  · next e => subst e; cases h; exact ⟨tCB (fun xs H Q => ∃ p ys, xs = [V.ref p] ∧ ((SqL X.K H p ys ∧ ∀ l, H l = none → Q (.ref l) (upd H l (.tup ys))) ∨ (SqT X.K H p ys ∧ Q (.ref p) H))) (tCons ta tNil), fun v hv => L2.pe_callTy (T := "tuple") (r := fun xs H Q => ∃ p ys, xs = [V.ref p] ∧ ((SqL X.K H p ys ∧ ∀ l, H l = none → Q (.ref l) (upd H l (.tup ys))) ∨ (SqT X.K H p ys ∧ Q (.ref p) H))) (L2.call_tuple_of (X := vary X v)) (g1 v hv) hm (by decide +kernel) (pa v hv) g3 g2 (star_ok hn) rfl, rd_op1 (r := fun x H Q => ∃ p ys, [x] = [V.ref p] ∧ ((SqL X.K H p ys ∧ ∀ l, H l = none → Q (.ref l) (upd H l (.tup ys))) ∨ (SqT X.K H p ys ∧ Q (.ref p) H))) a2 (fun _ _ _ z => z) fun e bx h q => pr_tup e bx h q⟩
  split at h
  · next e => subst e; cases h; exact ⟨tCB (fun xs H Q => ∃ p ys, xs = [V.ref p] ∧ (SqL X.K H p ys ∨ SqT X.K H p ys) ∧ ∀ l, H l = none → Q (.ref l) (upd H l (.lst ys))) (tCons ta tNil), fun v hv => L2.pe_callTy (T := "list") (r := fun xs H Q => ∃ p ys, xs = [V.ref p] ∧ (SqL X.K H p ys ∨ SqT X.K H p ys) ∧ ∀ l, H l = none → Q (.ref l) (upd H l (.lst ys))) (L2.call_list_of (X := vary X v)) (g1 v hv) hm (by decide +kernel) (pa v hv) g3 g2 (star_ok hn) rfl, rd_op1 (r := fun x H Q => ∃ p ys, [x] = [V.ref p] ∧ (SqL X.K H p ys ∨ SqT X.K H p ys) ∧ ∀ l, H l = none → Q (.ref l) (upd H l (.lst ys))) a2 (fun _ _ _ z => z) fun e bx h q => pr_lst e bx h q⟩
  cases h
theorem blt2_ok (g : Good C tab R X) {x : Str} {o : Op} {a b : Expr} {xa xb : Ex} {p pos : Pos} (h : blt2 x = some o) (hg : globB sc x = true) (hb : x ∈ C.blt) (ha : PEd X sc fnc tab R a xa) (hb' : PEd X sc fnc tab R b xb) (hn : isStar a = false) (hn' : isStar b = false) :
    PEd X sc fnc tab R (.Call (.Name x p) [a, b] [] pos) (.op o (.cons xa (.cons xb .nil))) := by
  obtain ⟨ta, a1, a2⟩ := ha
  obtain ⟨tb, b1, b2⟩ := hb'
  obtain ⟨g1, g2, g3⟩ := glob_ok (X := X) (fnc := fnc) hg
  have hm := g.blt x hb
  have pa : ∀ v, GV sc fnc v → PA (vary X v) [a, b] (tCons ta (tCons tb tNil)) := fun v hv => L2.pa_cons (a1 v hv) (L2.pa_cons (b1 v hv) L2.pa_nil (star_ok hn')) (star_ok hn)
  have st : ∀ env : PySem.Env, (backTo pos (starEach [b] env)).any (·.1) = false := fun env => star_none (by simp [hn'])
  unfold blt2 at h
  split at h
  · next e => subst e; cases h; exact ⟨tCB (fun xs H Q => ∃ i j, xs = [V.int i, V.int j] ∧ Q (.int (max2 i j)) H) (tCons ta (tCons tb tNil)), fun v hv => L2.pe_callB (id := "max") (r := fun xs H Q => ∃ i j, xs = [V.int i, V.int j] ∧ Q (.int (max2 i j)) H) (L2.call_max2 (X := vary X v) g.calm) (g1 v hv) hm (by decide +kernel) (pa v hv) g3 g2 (star_ok hn) (st _), rd_op2 (r := fun x y H Q => ∃ i j, [x, y] = [V.int i, V.int j] ∧ Q (.int (max2 i j)) H) a2 b2 (fun _ _ _ z => z) fun e bx hy h q => pr_int2 e bx hy h q⟩
  split at h
  · next e => subst e; cases h; exact ⟨tCB (fun xs H Q => ∃ i j, xs = [V.int i, V.int j] ∧ Q (.int (min2 i j)) H) (tCons ta (tCons tb tNil)), fun v hv => L2.pe_callB (id := "min") (r := fun xs H Q => ∃ i j, xs = [V.int i, V.int j] ∧ Q (.int (min2 i j)) H) (L2.call_min2 (X := vary X v) g.calm) (g1 v hv) hm (by decide +kernel) (pa v hv) g3 g2 (star_ok hn) (st _), rd_op2 (r := fun x y H Q => ∃ i j, [x, y] = [V.int i, V.int j] ∧ Q (.int (min2 i j)) H) a2 b2 (fun _ _ _ z => z) fun e bx hy h q => pr_int2 e bx hy h q⟩
  cases h
def tyNames : List String := ["int", "bool", "str", "tuple", "list"]
def tyOf (x : Str) : Option String := if x = "int" then some "int" else if x = "bool" then some "bool" else if x = "str" then some "str" else if x = "tuple" then some "tuple" else if x = "list" then some "list" else none
theorem tyOf_ok {x : Str} {T : String} (h : tyOf x = some T) : bootBuiltins x = some (.type T) := by
  unfold tyOf at h
  split at h
  · next e => subst e; cases h; decide +kernel
  split at h
  · next e => subst e; cases h; decide +kernel
  split at h
  · next e => subst e; cases h; decide +kernel
  split at h
  · next e => subst e; cases h; decide +kernel
  split at h
  · next e => subst e; cases h; decide +kernel
  cases h
theorem isi_call_ok (g : Good C tab R X) {y : Str} {T : String} {a : Expr} {xa : Ex} {p p2 pos : Pos} (hT : tyOf y = some T) (hg : globB sc "isinstance" = true) (hb : ("isinstance" : Str) ∈ C.blt) (hgy : globB sc y = true) (hby : y ∈ C.blt) (ha : PEd X sc fnc tab R a xa) (hn : isStar a = false) :
    PEd X sc fnc tab R (.Call (.Name "isinstance" p) [a, .Name y p2] [] pos) (.op (.isi T) (.cons xa .nil)) := by
  obtain ⟨ta, a1, a2⟩ := ha
  obtain ⟨g1, g2, g3⟩ := glob_ok (X := X) (fnc := fnc) hg
  obtain ⟨k1, k2, k3⟩ := glob_ok (X := X) (fnc := fnc) hgy
  have hm := g.blt _ hb
  have hm' := g.blt _ hby
  have pt : ∀ v, GV sc fnc v → PE (vary X v) (.Name y p2) (tC (.ty T)) := fun v hv => L2.pe_bltn (k1 v hv) hm' (tyOf_ok hT) rfl k3 k2
  have pa : ∀ v, GV sc fnc v → PA (vary X v) [a, .Name y p2] (tCons ta (tCons (tC (.ty T)) tNil)) := fun v hv => L2.pa_cons (a1 v hv) (L2.pa_cons (pt v hv) L2.pa_nil rfl) (star_ok hn)
  exact ⟨tCB (L2.rIsi X.K) (tCons ta (tCons (tC (.ty T)) tNil)), fun v hv => L2.pe_callB (id := "isinstance") (r := L2.rIsi X.K) (L2.call_isi (X := vary X v)) (g1 v hv) hm (by decide +kernel) (pa v hv) g3 g2 (star_ok hn) rfl, rd_op1 (r := fun x H Q => L2.rIsi X.K [x, .ty T] H Q) a2 (fun _ _ _ z => z) fun e bx h q => pr_isi e bx h q⟩
end
end Pv

set_option Elab.async false
set_option linter.all false
set_option maxRecDepth 100000
set_option maxHeartbeats 4000000
/-! PvA: the translation of expressions, whole. -/
namespace Pv
open PySem PySem.Spec
open L2 (V Hp HO VK TE TT TA TS TG TGs TI Ends Cx Inv PE PT PW PA PS PSs PG PGs PI SqL SqT Rd upd upd_same upd_ne Vals RelV Sp XK It R2 OpR CallR IxR SlR UnR Dp DpAll tVar tC tOp tUn tCons tNil tTup tLst tCB tTest wipe Gl Vis Loc)
section
variable {C : Cfg} {tab : Nat → Option Fn} {R : Rn} {X : Cx} {sc : Scope} {fnc : Str → Bool}

/-! ### and, or -/
def trBoolV (f : Expr → Option Ex) (op : BoolOp) : List Expr → Option Ex
  | [] => none
  | [a] => f a
  | a :: r => (f a).bind fun x => (trBoolV f op r).map fun y => match op with | .And => .and x y | .Or => .or x y
theorem trBoolV_ok {f : Expr → Option Ex} (hf : ∀ e x, f e = some x → PEd X sc fnc tab R e x) {op : BoolOp} {pos : Pos} : ∀ {vs : List Expr} {x : Ex}, trBoolV f op vs = some x → PEd X sc fnc tab R (.BoolOp op vs pos) x
  | [], x, h => by simp [trBoolV] at h
  | [a], x, h => by
    obtain ⟨t, h1, h2⟩ := hf a x h
    exact ⟨t, fun v hv => L2.pe_one (h1 v hv), h2⟩
  | a :: b :: r, x, h => by
    simp only [trBoolV, Option.bind_eq_some_iff, Option.map_eq_some_iff] at h
    obtain ⟨y, h1, z, h2, rfl⟩ := h
    obtain ⟨t, a1, a2⟩ := hf a y h1
    obtain ⟨u, b1, b2⟩ := trBoolV_ok hf (vs := b :: r) h2
    cases op with
    | And => exact ⟨_, fun v hv => L2.pe_and (a1 v hv) (b1 v hv), rd_and a2 b2⟩
    | Or => exact ⟨_, fun v hv => L2.pe_or (a1 v hv) (b1 v hv), rd_or a2 b2⟩
def trBoolT (f : Expr → Option Tt) (op : BoolOp) : List Expr → Option Tt
  | [] => none
  | [a] => f a
  | a :: r => (f a).bind fun x => (trBoolT f op r).map fun y => match op with | .And => .and x y | .Or => .or x y
theorem trBoolT_ok {f : Expr → Option Tt} (hf : ∀ e x, f e = some x → PTd X sc fnc tab R e x) {op : BoolOp} {pos : Pos} : ∀ {vs : List Expr} {x : Tt}, trBoolT f op vs = some x → PWd X sc fnc tab R (.BoolOp op vs pos) x
  | [], x, h => by simp [trBoolT] at h
  | [a], x, h => by
    obtain ⟨t, h1, h2⟩ := hf a x h
    cases op with
    | And => exact ⟨t, fun v hv => L2.pw_and1 (h1 v hv), h2⟩
    | Or => exact ⟨t, fun v hv => L2.pw_or1 (h1 v hv), h2⟩
  | a :: b :: r, x, h => by
    simp only [trBoolT, Option.bind_eq_some_iff, Option.map_eq_some_iff] at h
    obtain ⟨y, h1, z, h2, rfl⟩ := h
    obtain ⟨t, a1, a2⟩ := hf a y h1
    obtain ⟨u, b1, b2⟩ := trBoolT_ok hf (vs := b :: r) h2
    cases op with
    | And => exact ⟨_, fun v hv => L2.pw_and (a1 v hv) (b1 v hv), rt_and a2 b2⟩
    | Or => exact ⟨_, fun v hv => L2.pw_or (a1 v hv) (b1 v hv), rt_or a2 b2⟩

/-! ### comparisons -/
def trCmp (f : Expr → Option Ex) (a : Expr) (ops : List CmpOp) (cs : List Expr) : Option Ex := match ops, cs with
  | [.Is], [.Constant .none _ _] => (f a).map fun x => .op .isN (.cons x .nil)
  | [.IsNot], [.Constant .none _ _] => (f a).map fun x => .op .notN (.cons x .nil)
  | [op], [b] => if isSet b then none else (cmpOp op).bind fun o => (f a).bind fun x => (f b).map fun y => .op o (.cons x (.cons y .nil))
  | [op, op'], [b, c] => if isSet c then none else (cmpOp op).bind fun o => (cmpOp op').bind fun o' => (f a).bind fun x => (f b).bind fun y => (f c).map fun z => .chain o o' (.cons x (.cons y .nil)) (.cons z .nil)
  | _, _ => none
theorem trCmp_ok (hu : X.A.units + 64 < cLine) {f : Expr → Option Ex} (hf : ∀ e x, f e = some x → PEd X sc fnc tab R e x) {a : Expr} {ops : List CmpOp} {cs : List Expr} {pos : Pos} {x : Ex} (h : trCmp f a ops cs = some x) :
    PEd X sc fnc tab R (.Compare a ops cs pos) x ∧ PTd X sc fnc tab R (.Compare a ops cs pos) (.val x) := by
  unfold trCmp at h
  split at h
  · simp only [Option.map_eq_some_iff] at h
    obtain ⟨y, h1, rfl⟩ := h
    exact isN_ok (hf _ _ h1)
  · simp only [Option.map_eq_some_iff] at h
    obtain ⟨y, h1, rfl⟩ := h
    exact notN_ok (hf _ _ h1)
  · split at h
    · cases h
    · next hs =>
      simp only [Option.bind_eq_some_iff, Option.map_eq_some_iff] at h
      obtain ⟨o, h1, y, h2, z, h3, rfl⟩ := h
      exact cmp_ok hu h1 (hf _ _ h2) (hf _ _ h3) (by simpa using hs)
  · split at h
    · cases h
    · next hs =>
      simp only [Option.bind_eq_some_iff, Option.map_eq_some_iff] at h
      obtain ⟨o, h1, o', h1', y, h2, z, h3, w, h4, rfl⟩ := h
      exact chain_ok hu h1 h1' (hf _ _ h2) (hf _ _ h3) (hf _ _ h4) (by simpa using hs)
  · cases h

/-! ### own defs called -/
def findFn (x : Str) : List FI → Nat → Option (Nat × FI)
  | [], _ => none
  | fi :: r, k => if fi.name = x then some (k, fi) else findFn x r (k + 1)
theorem findFn_ok {x : Str} : ∀ {l : List FI} {k f : Nat} {fi : FI}, findFn x l k = some (f, fi) → fi.name = x ∧ k ≤ f ∧ l[f - k]? = some fi
  | [], _, _, _, h => by simp [findFn] at h
  | y :: r, k, f, fi, h => by
    simp only [findFn] at h
    split at h
    · next e => cases h; exact ⟨e, Nat.le_refl _, by simp⟩
    · obtain ⟨h1, h2, h3⟩ := findFn_ok h
      refine ⟨h1, by omega, ?_⟩
      have : f - k = (f - (k + 1)) + 1 := by omega
      rw [this]; simpa using h3
def findSh (n : Nat) (ks : List Str) : List (Nat × List Str) → Nat → Option Nat
  | [], _ => none
  | p :: r, k => if p.1 = n ∧ p.2 = ks then some k else findSh n ks r (k + 1)
theorem findSh_ok {n : Nat} {ks : List Str} : ∀ {l : List (Nat × List Str)} {k s : Nat}, findSh n ks l k = some s → k ≤ s ∧ l[s - k]? = some (n, ks)
  | [], _, _, h => by simp [findSh] at h
  | p :: r, k, s, h => by
    simp only [findSh] at h
    split at h
    · next e => cases h; exact ⟨Nat.le_refl _, by simp [← e.1, ← e.2]⟩
    · obtain ⟨h2, h3⟩ := findSh_ok h
      refine ⟨by omega, ?_⟩
      have : s - k = (s - (k + 1)) + 1 := by omega
      rw [this]; simpa using h3
def kwNames : List Keyword → Option (List Str)
  | [] => some []
  | ⟨some x, _, _⟩ :: r => (kwNames r).map fun xs => x :: xs
  | ⟨none, _, _⟩ :: _ => none
theorem kw_ok {env : PySem.Env} {pos : Pos} : ∀ {ks : List Keyword} {xs : List Str}, kwNames ks = some xs → (backToKw pos (keywordEach ks env)).all (·.1.isSome) = true ∧ (backToKw pos (keywordEach ks env)).filterMap (·.1) = xs ∧ (backToKw pos (keywordEach ks env)).any (·.1.isNone) = false ∧ ks.length = xs.length
  | [], xs, h => by simp [kwNames] at h; subst h; exact ⟨rfl, rfl, rfl, rfl⟩
  | ⟨some x, v, p⟩ :: r, xs, h => by
    simp only [kwNames, Option.map_eq_some_iff] at h
    obtain ⟨ys, h1, rfl⟩ := h
    obtain ⟨g1, g2, g3, g4⟩ := kw_ok (env := env) (pos := pos) h1
    refine ⟨?_, ?_, ?_, by simp [g4]⟩
    · show (true && (backToKw pos (keywordEach r env)).all (·.1.isSome)) = true
      rw [g1]; rfl
    · show (x :: (backToKw pos (keywordEach r env)).filterMap (·.1)) = x :: ys
      rw [g2]
    · show (false || (backToKw pos (keywordEach r env)).any (·.1.isNone)) = false
      rw [g3]; rfl
  | ⟨none, v, p⟩ :: r, xs, h => by simp [kwNames] at h
def lentAt (shp : Shape) (io : List Nat) (k : Nat) : Bool := io.any fun p => match shp.ord[p]? with
  | some (.inl j) => j == k
  | _ => false
def trArg (C : Cfg) (sc : Scope) (f : Expr → Option Ex) (shp : Shape) (io : List Nat) (k : Nat) (e : Expr) : Option Ex := if lentAt shp io k then (match e with
    | .Name x _ => (trVar C sc x).map .lend
    | _ => none) else f e
theorem trArg_ok (g : Good C tab R X) {f : Expr → Option Ex} (hf : ∀ e x, f e = some x → PEd X sc fnc tab R e x) {shp : Shape} {io : List Nat} {k : Nat} {e : Expr} {x : Ex} (h : trArg C sc f shp io k e = some x) : PEd X sc fnc tab R e x := by
  unfold trArg at h
  split at h
  · split at h
    · simp only [Option.map_eq_some_iff] at h
      obtain ⟨i, h1, rfl⟩ := h
      exact ⟨_, fun v hv => trVar_ok g hv h1, rd_lend⟩
    · cases h
  · exact hf e x h
def trArgs (f : Nat → Expr → Option Ex) : Nat → List Expr → Option Exs
  | _, [] => some .nil
  | k, e :: es => if isStar e then none else (f k e).bind fun x => (trArgs f (k + 1) es).map fun xs => .cons x xs
theorem trArgs_ok {f : Nat → Expr → Option Ex} (hf : ∀ k e x, f k e = some x → PEd X sc fnc tab R e x) : ∀ {es : List Expr} {k : Nat} {xs : Exs}, trArgs f k es = some xs → PAd X sc fnc tab R es xs ∧ (es.all fun e => !isStar e) = true ∧ es.length = xs.len
  | [], k, xs, h => by simp [trArgs] at h; subst h; exact ⟨pad_nil, rfl, rfl⟩
  | e :: es, k, xs, h => by
    simp only [trArgs] at h
    split at h
    · cases h
    · next hn =>
      simp only [Option.bind_eq_some_iff, Option.map_eq_some_iff] at h
      obtain ⟨x, h1, ys, h2, rfl⟩ := h
      obtain ⟨g1, g2, g3⟩ := trArgs_ok hf h2
      have hn' : isStar e = false := by simpa using hn
      exact ⟨pad_cons (hf _ e x h1) g1 hn', by simp [hn', g2], by simp [Exs.len, g3]⟩
def trKw (f : Nat → Expr → Option Ex) : Nat → List Keyword → Option Exs
  | _, [] => some .nil
  | k, ⟨_, e, _⟩ :: es => (f k e).bind fun x => (trKw f (k + 1) es).map fun xs => .cons x xs
theorem trKw_ok {f : Nat → Expr → Option Ex} (hf : ∀ k e x, f k e = some x → PEd X sc fnc tab R e x) : ∀ {es : List Keyword} {k : Nat} {xs : Exs}, trKw f k es = some xs → PKd X sc fnc tab R es xs ∧ es.length = xs.len
  | [], k, xs, h => by simp [trKw] at h; subst h; exact ⟨⟨_, fun _ _ => L2.pk_nil, rda_nil⟩, rfl⟩
  | ⟨nm, e, p⟩ :: es, k, xs, h => by
    simp only [trKw, Option.bind_eq_some_iff, Option.map_eq_some_iff] at h
    obtain ⟨x, h1, ys, h2, rfl⟩ := h
    obtain ⟨⟨t, g1, g2⟩, g3⟩ := trKw_ok hf h2
    obtain ⟨u, k1, k2⟩ := hf _ e x h1
    exact ⟨⟨_, fun v hv => L2.pk_cons (k1 v hv) (g1 v hv), rda_cons k2 g2⟩, by simp [Exs.len, g3]⟩
def trOwn (C : Cfg) (tab : Nat → Option Fn) (sc : Scope) (f : Expr → Option Ex) (x : Str) (args : List Expr) (kws : List Keyword) : Option Ex :=
  if globB sc x && !args.isEmpty then
    (findFn x C.fis 0).bind fun p => (tab p.1).bind fun fn => (kwNames kws).bind fun ks => (findSh args.length ks p.2.shapes 0).bind fun sh => (fn.shapes[sh]?).bind fun shp =>
      (trArgs (trArg C sc f shp fn.io) 0 args).bind fun xs => (trKw (trArg C sc f shp fn.io) args.length kws).map fun ys => .call p.1 sh xs ys
  else none
theorem trOwn_ok (g : Good C tab R X) {f : Expr → Option Ex} (hf : ∀ e x, f e = some x → PEd X sc fnc tab R e x) {x : Str} {args : List Expr} {kws : List Keyword} {y : Ex} {p pos : Pos} (h : trOwn C tab sc f x args kws = some y) : PEd X sc fnc tab R (.Call (.Name x p) args kws pos) y := by
  unfold trOwn at h
  split at h
  · next hb =>
    simp only [Bool.and_eq_true, Bool.not_eq_true'] at hb
    simp only [Option.bind_eq_some_iff, Option.map_eq_some_iff] at h
    obtain ⟨⟨fi0, fi⟩, h1, fn, h2, ks, h3, sh, h4, shp, h5, xs, h6, ys, h7, rfl⟩ := h
    dsimp only at h2 h4
    obtain ⟨n1, _, n3⟩ := findFn_ok h1
    obtain ⟨_, s2⟩ := findSh_ok h4
    have G := g.fns fi0 fn fi h2 (by simpa using n3)
    obtain ⟨lv, adr, fd, ps, gg, gV, F, hr, hm, hk, kb, hl, har⟩ := G.ok sh shp _ _ h5 (by simpa using s2)
    obtain ⟨g1, g2, g3⟩ := glob_ok (X := X) (fnc := fnc) hb.1
    rw [n1] at hm
    obtain ⟨⟨ta, a1, a2⟩, a3, a4⟩ := trArgs_ok (fun k e x => trArg_ok g hf) h6
    obtain ⟨⟨tk, b1, b2⟩, b3⟩ := trKw_ok (fun k e x => trArg_ok g hf) h7
    have kwo := fun env : PySem.Env => kw_ok (env := env) (pos := pos) h3
    have c4 := (kwo X.env).2.2.2
    cases args with
    | nil => simp at hb
    | cons e es =>
      simp only [List.all_cons, Bool.and_eq_true, Bool.not_eq_true'] at a3
      refine ⟨_, fun v hv => L2.pe_callN (X := vary X v) (E := L2.E0) F hr (g1 v hv) hm hk kb L2.pass0 (a1 v hv) (b1 v hv) (kwo _).1 (kwo _).2.1 g2 (star_ok a3.1) ?_, rd_call h2 h5 a4 (by rw [← c4, b3]) G.nd har hl a2 b2⟩
      rw [(kwo _).2.2.1, Bool.or_false]
      exact star_none (es := e :: es) (by simp [a3.1]; simpa using a3.2)
  · cases h

/-! ### targets -/
def locB (sc : Scope) (fnc : Str → Bool) (x : Str) : Bool := match sc.names.lookup x with
  | some .local => true
  | some .cell => fnc x
  | _ => false
def PGd (X : Cx) (sc : Scope) (fnc : Str → Bool) (e : Expr) (tg : Tg) : Prop := ∃ g, (∀ v, GV sc fnc v → PG (vary X v) e g) ∧ RdG X.K tg g
theorem pg_ok (g : Good C tab R X) {v : Vy} (gv : GV sc fnc v) {x : Str} {i : Nat} {pos : Pos} (h : locB sc fnc x = true) (hi : idx C.N x = some i) : PG (vary X v) (.Name x pos) (L2.gName i) := by
  have nd : X.N.Nodup := by rw [g.hN]; exact g.nd
  have hx : X.N[i]? = some x := by rw [g.hN]; exact idx_ok hi
  unfold locB at h
  split at h
  · next e => exact L2.pg_name nd hx (.inl (by rw [gv.hsc]; exact e)) (.inr (by rw [gv.hsc]; exact e))
  · next e => exact L2.pg_name nd hx (.inr (by rw [gv.hsc]; exact e)) (.inl (gv.fn x h))
  · cases h
def trNames (C : Cfg) (sc : Scope) (fnc : Str → Bool) : List Expr → Option (List Nat)
  | [] => some []
  | .Name x _ :: r => if locB sc fnc x then (idx C.N x).bind fun i => (trNames C sc fnc r).map fun is => i :: is else none
  | _ :: _ => none
theorem trNames_ok (g : Good C tab R X) {v : Vy} (gv : GV sc fnc v) : ∀ {es : List Expr} {is : List Nat}, trNames C sc fnc es = some is → PGs (vary X v) es (gsOf is) ∧ (assignEach es v.env).length = is.length ∧ (assignEach es v.env).findIdx? (·.1) = none
  | [], is, h => by simp [trNames] at h; subst h; exact ⟨L2.pgs_nil, rfl, rfl⟩
  | e :: r, is, h => by
    cases e <;> first | (simp [trNames] at h; done) | skip
    next x p =>
    simp only [trNames, Option.ite_none_right_eq_some, Option.bind_eq_some_iff, Option.map_eq_some_iff] at h
    obtain ⟨hl, i, hi, js, h1, rfl⟩ := h
    obtain ⟨g1, g2, g3⟩ := trNames_ok g gv h1
    refine ⟨L2.pgs_cons (pg_ok g gv hl hi) g1 rfl, ?_, ?_⟩
    · show (assignEach r v.env).length + 1 = js.length + 1
      rw [g2]
    · show List.findIdx? (·.1) ((false, assign (.Name x p) v.env) :: assignEach r v.env) = none
      rw [List.findIdx?_cons]
      simp [g3]
def trG (C : Cfg) (sc : Scope) (fnc : Str → Bool) : Expr → Option Tg
  | .Name x _ => if locB sc fnc x then (idx C.N x).map .name else none
  | .Tuple es _ _ => (trNames C sc fnc es).map .tup
  | _ => none
theorem trG_ok (g : Good C tab R X) {e : Expr} {tg : Tg} (h : trG C sc fnc e = some tg) : PGd X sc fnc e tg := by
  cases e <;> first | (simp [trG] at h; done) | skip
  · simp only [trG, Option.ite_none_right_eq_some, Option.map_eq_some_iff] at h
    obtain ⟨hl, i, hi, rfl⟩ := h
    exact ⟨_, fun v hv => pg_ok g hv hl hi, rg_name⟩
  · simp only [trG, Option.map_eq_some_iff] at h
    obtain ⟨is, h1, rfl⟩ := h
    exact ⟨_, fun v hv => pg_unp (X := vary X v) g.calm (trNames_ok g hv h1).1 (trNames_ok g hv h1).2.1 (trNames_ok g hv h1).2.2, rg_tup⟩

/-! ### what is walked -/
def isTup : Expr → Bool
  | .Tuple _ _ _ => true
  | _ => false
def trI (C : Cfg) (sc : Scope) (f : Expr → Option Ex) (tg it : Expr) : Option (ItK × Exs) := match it with
  | .Call (.Name x _) [a] [] _ => if x = "range" then (if globB sc x && decide (x ∈ C.blt) && !isStar a then (f a).map fun y => (.range1, .cons y .nil) else none)
      else if x = "enumerate" then (if globB sc x && decide (x ∈ C.blt) && !isStar a && isTup tg then (f a).map fun y => (.enum, .cons y .nil) else none)
      else (f it).map fun y => (.seq, .cons y .nil)
  | .Call (.Name x _) [a, b] [] _ => if x = "range" then (if globB sc x && decide (x ∈ C.blt) && !isStar a && !isStar b then (f a).bind fun y => (f b).map fun z => (.range2, .cons y (.cons z .nil)) else none)
      else if x = "zip" then (if globB sc x && decide (x ∈ C.blt) && !isStar a && !isStar b && isTup tg then (f a).bind fun y => (f b).map fun z => (.zip, .cons y (.cons z .nil)) else none)
      else (f it).map fun y => (.seq, .cons y .nil)
  | e => if isSet e then none else (f e).map fun y => (.seq, .cons y .nil)
theorem trI_ok (g : Good C tab R X) {f : Expr → Option Ex} (hf : ∀ e x, f e = some x → PEd X sc fnc tab R e x) {tg it : Expr} {k : ItK} {xs : Exs} (h : trI C sc f tg it = some (k, xs)) : PId X sc fnc tab R tg it k xs ∧ isSet it = false := by
  have seq : ∀ {e : Expr} {y : Ex}, f e = some y → PId X sc fnc tab R tg e .seq (.cons y .nil) := fun {e y} hy => by
    obtain ⟨t, h1, h2⟩ := hf e y hy
    exact ⟨iSeq X.K t, fun v hv => pi_seq (X := vary X v) (h1 v hv), ri_seq h2⟩
  unfold trI at h
  split at h
  · next x _ a _ =>
    refine ⟨?_, rfl⟩
    split at h
    · next e =>
      subst e
      simp only [Option.ite_none_right_eq_some, Bool.and_eq_true, Bool.not_eq_true', decide_eq_true_eq, Option.map_eq_some_iff, Prod.mk.injEq] at h
      obtain ⟨⟨⟨b1, b2⟩, b3⟩, y, h1, rfl, rfl⟩ := h
      obtain ⟨t, k1, k2⟩ := hf a y h1
      obtain ⟨g1, g2, g3⟩ := glob_ok (X := X) (fnc := fnc) b1
      exact ⟨_, fun v hv => L2.pi_range1 (g1 v hv) (g.blt _ b2) (L2.pa_cons (k1 v hv) L2.pa_nil (star_ok b3)) (star_ok b3), ri_range1 (rda_cons k2 rda_nil)⟩
    · split at h
      · next e =>
        subst e
        simp only [Option.ite_none_right_eq_some, Bool.and_eq_true, Bool.not_eq_true', decide_eq_true_eq, Option.map_eq_some_iff, Prod.mk.injEq] at h
        obtain ⟨⟨⟨⟨b1, b2⟩, b3⟩, b4⟩, y, h1, rfl, rfl⟩ := h
        obtain ⟨t, k1, k2⟩ := hf a y h1
        obtain ⟨g1, g2, g3⟩ := glob_ok (X := X) (fnc := fnc) b1
        cases tg <;> first | (simp [isTup] at b4; done) | skip
        exact ⟨L2.iEnum X.K (tCons t tNil), fun v hv => L2.pi_enum (X := vary X v) (g1 v hv) (g.blt _ b2) (L2.pa_cons (k1 v hv) L2.pa_nil (star_ok b3)) (star_ok b3), ri_enum (rda_cons k2 rda_nil)⟩
      · simp only [Option.map_eq_some_iff, Prod.mk.injEq] at h
        obtain ⟨y, h1, rfl, rfl⟩ := h
        exact seq h1
  · next x _ a b _ =>
    refine ⟨?_, rfl⟩
    split at h
    · next e =>
      subst e
      simp only [Option.ite_none_right_eq_some, Bool.and_eq_true, Bool.not_eq_true', decide_eq_true_eq, Option.bind_eq_some_iff, Option.map_eq_some_iff, Prod.mk.injEq] at h
      obtain ⟨⟨⟨⟨b1, b2⟩, b3⟩, b4⟩, y, h1, z, h2, rfl, rfl⟩ := h
      obtain ⟨t, k1, k2⟩ := hf a y h1
      obtain ⟨u, m1, m2⟩ := hf b z h2
      obtain ⟨g1, g2, g3⟩ := glob_ok (X := X) (fnc := fnc) b1
      exact ⟨_, fun v hv => L2.pi_range2 (g1 v hv) (g.blt _ b2) (L2.pa_cons (k1 v hv) (L2.pa_cons (m1 v hv) L2.pa_nil (star_ok b4)) (star_ok b3)) ((star_ok b3).trans (by rw [star_ok b4]; rfl)) (star_ok b4), ri_range2 (rda_cons k2 (rda_cons m2 rda_nil))⟩
    · split at h
      · next e =>
        subst e
        simp only [Option.ite_none_right_eq_some, Bool.and_eq_true, Bool.not_eq_true', decide_eq_true_eq, Option.bind_eq_some_iff, Option.map_eq_some_iff, Prod.mk.injEq] at h
        obtain ⟨⟨⟨⟨⟨b1, b2⟩, b3⟩, b4⟩, b5⟩, y, h1, z, h2, rfl, rfl⟩ := h
        obtain ⟨t, k1, k2⟩ := hf a y h1
        obtain ⟨u, m1, m2⟩ := hf b z h2
        obtain ⟨g1, g2, g3⟩ := glob_ok (X := X) (fnc := fnc) b1
        cases tg <;> first | (simp [isTup] at b5; done) | skip
        exact ⟨RZ.iZipA X.K (tCons t (tCons u tNil)), fun v hv => RZ.pi_zipA (X := vary X v) (g1 v hv) (g.blt _ b2) (L2.pa_cons (k1 v hv) (L2.pa_cons (m1 v hv) L2.pa_nil (star_ok b4)) (star_ok b3)) (star_ok b3) (star_none (by simp [b4])), ri_zip (rda_cons k2 (rda_cons m2 rda_nil))⟩
      · simp only [Option.map_eq_some_iff, Prod.mk.injEq] at h
        obtain ⟨y, h1, rfl, rfl⟩ := h
        exact seq h1
  · simp only [Option.ite_none_left_eq_some, Option.map_eq_some_iff, Prod.mk.injEq] at h
    obtain ⟨hs, y, h1, rfl, rfl⟩ := h
    exact ⟨seq h1, by simpa using hs⟩
end
end Pv

set_option Elab.async false
set_option linter.all false
set_option maxRecDepth 100000
set_option maxHeartbeats 4000000
/-! PvB: expressions, statements, whole. -/
namespace Pv
open PySem PySem.Spec
open L2 (V Hp HO VK TE TT TA TS TG TGs TI Ends Cx Inv PE PT PW PA PS PSs PG PGs PI SqL SqT Rd upd upd_same upd_ne Vals RelV Sp XK It R2 OpR CallR IxR SlR UnR Dp DpAll tVar tC tOp tUn tCons tNil tTup tLst tCB tTest wipe Gl Vis Loc)

/-! ### comprehensions -/
def ownOf (N : List Str) : List (Str × NameKind) → List (Str × Nat)
  | [] => []
  | (n, k) :: r => match k, idx N n with
    | .local, some i => (n, i) :: ownOf N r
    | .cell, some i => (n, i) :: ownOf N r
    | _, _ => ownOf N r
def cellB (scope : Scope) : Str → Bool := fun x => scope.names.lookup x == some .cell
def trIfs (f : Expr → Option Tt) : List Expr → Option Tt
  | [] => some .yes
  | [c] => f c
  | _ => none
def trComp (C : Cfg) (sc : Scope) (fnc : Str → Bool) (fE : Scope → (Str → Bool) → Expr → Option Ex) (fT : Scope → (Str → Bool) → Expr → Option Tt) (elt tg iter : Expr) (ifs : List Expr) (scope : Scope) : Option Ex :=
  if L2.blkC C.N sc scope (ownOf C.N scope.names) then
    (trI C sc (fE sc fnc) tg iter).bind fun p => (trG C (L2.relS scope sc) (cellB scope) tg).bind fun t => if t.slots.all (fun j => decide (j ∈ (ownOf C.N scope.names).map (·.2))) then
      (trIfs (fT (L2.relS scope sc) (cellB scope)) ifs).bind fun c => (fE (L2.relS scope sc) (cellB scope) elt).map fun x => .comp ((ownOf C.N scope.names).map (·.2)) x t p.1 p.2 c
    else none
  else none

section
variable {C : Cfg} {tab : Nat → Option Fn} {R : Rn} {X : Cx} {sc : Scope} {fnc : Str → Bool}
/-- a block of X's is one of the varied -/
def blkV (X : Cx) (v : Vy) (s : Shared) (H : Hp) (scope : Scope) (cl : List (Str × Addr)) (Ca : Addr) (fp : List Addr) : Vy where
  s := s
  H := H
  env := compEnvC scope cl Ca v.env
  outer := X.stack
  ex := fp
  fn := cellB scope
  pn := []
  xe := fun _ _ => False
theorem blk_eq {v : Vy} {s : Shared} {H : Hp} {scope : Scope} {cl : List (Str × Addr)} {Ca : Addr} {fp : List Addr} : (vary X v).blk s H scope (compEnvC scope cl Ca (vary X v).env) fp = vary X (blkV X v s H scope cl Ca fp) := rfl
theorem gv_blk {v : Vy} (gv : GV sc fnc v) {s : Shared} {H : Hp} {scope : Scope} {cl : List (Str × Addr)} {Ca : Addr} {fp : List Addr} : GV (L2.relS scope sc) (cellB scope) (blkV X v s H scope cl Ca fp) where
  hsc := by rw [← gv.hsc]; rfl
  fn := fun x h => h
  xe := rfl
/-- what a comprehension is made of -/
theorem comp_parts (g : Good C tab R X) {fE : Scope → (Str → Bool) → Expr → Option Ex} {fT : Scope → (Str → Bool) → Expr → Option Tt} (hE : ∀ sc fnc e x, fE sc fnc e = some x → PEd X sc fnc tab R e x) (hT : ∀ sc fnc e x, fT sc fnc e = some x → PTd X sc fnc tab R e x)
    {elt tg iter : Expr} {ifs : List Expr} {scope : Scope} {y : Ex} (h : trComp C sc fnc fE fT elt tg iter ifs scope = some y) :
    ∃ wi gg tt te, (∀ v, GV sc fnc v → PI (vary X v) tg iter wi ∧ L2.BlkOk X.N v.env.scope scope (ownOf C.N scope.names) ∧ (∀ (s : Shared) (H : Hp) (Ca : Addr) (cl : List (Str × Addr)) (fp : List Addr), PG ((vary X v).blk s H scope (compEnvC scope cl Ca (vary X v).env) fp) tg gg) ∧
      (∀ (s : Shared) (H : Hp) (Ca : Addr) (cl : List (Str × Addr)) (fp : List Addr), L2.PTs ((vary X v).blk s H scope (compEnvC scope cl Ca (vary X v).env) fp) ifs tt) ∧ (∀ (s : Shared) (H : Hp) (Ca : Addr) (cl : List (Str × Addr)) (fp : List Addr), PE ((vary X v).blk s H scope (compEnvC scope cl Ca (vary X v).env) fp) elt te)) ∧
      (∀ env x, foldedSetIterable iter env x = pure x) ∧ RdE X.K tab R y (L2.tLc wi gg tt te ((ownOf C.N scope.names).map (·.2))) := by
  unfold trComp at h
  split at h
  · next hb =>
    simp only [Option.bind_eq_some_iff] at h
    obtain ⟨⟨k, es⟩, h1, t, h2, h3⟩ := h
    split at h3
    · next hs =>
      simp only [Option.bind_eq_some_iff, Option.map_eq_some_iff] at h3
      obtain ⟨c, h4, x, h5, rfl⟩ := h3
      obtain ⟨⟨wi, i1, i2⟩, i3⟩ := trI_ok g (hE sc fnc) h1
      obtain ⟨gg, g1, g2⟩ := trG_ok g h2
      obtain ⟨te, e1, e2⟩ := hE _ _ _ _ h5
      have hc : ∃ tt, (∀ v, GV (L2.relS scope sc) (cellB scope) v → L2.PTs (vary X v) ifs tt) ∧ RdT X.K tab R c tt := by
        unfold trIfs at h4
        split at h4
        · cases h4; exact ⟨_, fun _ _ => L2.pts_nil, rt_yes⟩
        · obtain ⟨tt, q1, q2⟩ := hT _ _ _ _ h4
          exact ⟨tt, fun v hv => L2.pts_one (q1 v hv), q2⟩
        · cases h4
      obtain ⟨tt, c1, c2⟩ := hc
      refine ⟨wi, gg, tt, te, fun v hv => ⟨i1 v hv, ?_, fun s H Ca cl fp => ?_, fun s H Ca cl fp => ?_, fun s H Ca cl fp => ?_⟩, fun env => fold_ok i3, rd_comp i2 g2 (fun j hj => ?_) c2 e2⟩
      · rw [hv.hsc, g.hN]
        exact L2.blkOk_by hb
      · exact g1 (blkV X v s H scope cl Ca fp) (gv_blk hv)
      · exact c1 (blkV X v s H scope cl Ca fp) (gv_blk hv)
      · exact e1 (blkV X v s H scope cl Ca fp) (gv_blk hv)
      · have := List.all_eq_true.mp hs j hj
        exact of_decide_eq_true this
    · cases h3
  · cases h
theorem comp_ok (g : Good C tab R X) {fE : Scope → (Str → Bool) → Expr → Option Ex} {fT : Scope → (Str → Bool) → Expr → Option Tt} (hE : ∀ sc fnc e x, fE sc fnc e = some x → PEd X sc fnc tab R e x) (hT : ∀ sc fnc e x, fT sc fnc e = some x → PTd X sc fnc tab R e x)
    {elt tg iter : Expr} {ifs : List Expr} {scope : Scope} {y : Ex} {pos : Pos} (h : trComp C sc fnc fE fT elt tg iter ifs scope = some y) : PEd X sc fnc tab R (.ListComp elt [⟨tg, iter, ifs, 0⟩] scope pos) y := by
  obtain ⟨wi, gg, tt, te, h1, h2, h3⟩ := comp_parts g hE hT h
  refine ⟨_, fun v hv => ?_, h3⟩
  obtain ⟨a1, a2, a3, a4, a5⟩ := h1 v hv
  exact L2.pe_lc (X := vary X v) g.calm (by show X.N.Nodup; rw [g.hN]; exact g.nd) a1 a2 a3 a4 a5 (h2 _)
end

/-! ### expressions -/
def optL (f : Expr → Option Ex) : Option Expr → Option Exs
  | none => some .nil
  | some e => (f e).map fun x => .cons x .nil
def trCall (C : Cfg) (tab : Nat → Option Fn) (sc : Scope) (f : Expr → Option Ex) (x : Str) (args : List Expr) (kws : List Keyword) : Option Ex := match args, kws with
  | [a], [] => if decide (x ∈ C.blt) then (if globB sc x && !isStar a then (blt1 x).bind fun o => (f a).map fun y => .op o (.cons y .nil) else none) else trOwn C tab sc f x args kws
  | [a, b], [] => if decide (x ∈ C.blt) then (if globB sc x && !isStar a && !isStar b then (if x = "isinstance" then (match b with
        | .Name y _ => if globB sc y && decide (y ∈ C.blt) then (tyOf y).bind fun T => (f a).map fun z => .op (.isi T) (.cons z .nil) else none
        | _ => none) else (blt2 x).bind fun o => (f a).bind fun y => (f b).map fun z => .op o (.cons y (.cons z .nil))) else none) else trOwn C tab sc f x args kws
  | args, kws => trOwn C tab sc f x args kws
def small {α : Type} (l : List α) : Bool := decide (l.length ≤ 1000)
mutual
def trE (C : Cfg) (tab : Nat → Option Fn) : Nat → Scope → (Str → Bool) → Expr → Option Ex
  | 0, _, _, _ => none
  | n + 1, sc, fnc, e => match e with
    | .Name x _ => trName C sc x
    | .Constant c _ _ => trConst c
    | .BinOp a op b _ => (binOp op).bind fun o => (trE C tab n sc fnc a).bind fun x => (trE C tab n sc fnc b).map fun y => .op o (.cons x (.cons y .nil))
    | .UnaryOp .Not a _ => (trE C tab n sc fnc a).map .not
    | .UnaryOp .USub a _ => (trE C tab n sc fnc a).map fun x => .op .neg (.cons x .nil)
    | .BoolOp op vs _ => trBoolV (trE C tab n sc fnc) op vs
    | .IfExp c a b _ => (trT C tab n sc fnc c).bind fun t => (trE C tab n sc fnc a).bind fun x => (trE C tab n sc fnc b).map fun y => .ite t x y
    | .Compare a ops cs _ => trCmp (trE C tab n sc fnc) a ops cs
    | .Tuple es _ _ => if small es then (trList (trE C tab n sc fnc) es).map .tup else none
    | .List es _ => if small es then (trList (trE C tab n sc fnc) es).map .lst else none
    | .Subscript a (.Slice lo hi none _) _ => (trE C tab n sc fnc a).bind fun x => (optL (trE C tab n sc fnc) lo).bind fun l => (optL (trE C tab n sc fnc) hi).map fun h => .slc (.cons x .nil) l h
    | .Subscript a b _ => if isSlice b then none else (trE C tab n sc fnc a).bind fun x => (trE C tab n sc fnc b).map fun y => .op .idx (.cons x (.cons y .nil))
    | .Call (.Name x _) args kws _ => trCall C tab sc (trE C tab n sc fnc) x args kws
    | .ListComp elt [⟨tg, iter, ifs, 0⟩] scope _ => trComp C sc fnc (trE C tab n) (trT C tab n) elt tg iter ifs scope
    | _ => none
def trT (C : Cfg) (tab : Nat → Option Fn) : Nat → Scope → (Str → Bool) → Expr → Option Tt
  | 0, _, _, _ => none
  | n + 1, sc, fnc, e => match e with
    | .UnaryOp .Not a _ => (trT C tab n sc fnc a).map .not
    | .BoolOp op vs _ => trBoolT (trT C tab n sc fnc) op vs
    | .Compare a ops cs _ => (trCmp (trE C tab n sc fnc) a ops cs).map .val
    | .IfExp _ _ _ _ => none
    | e => (trE C tab n sc fnc e).map .val
end

section
variable {C : Cfg} {tab : Nat → Option Fn} {R : Rn} {X : Cx}
theorem optL_ok {sc : Scope} {fnc : Str → Bool} {f : Expr → Option Ex} (hf : ∀ e x, f e = some x → PEd X sc fnc tab R e x) {o : Option Expr} {xs : Exs} (h : optL f o = some xs) : POd X sc fnc tab R o xs := by
  cases o with
  | none => simp [optL] at h; subst h; exact ⟨_, fun _ _ => L2.po_none, rp_none⟩
  | some e =>
    simp only [optL, Option.map_eq_some_iff] at h
    obtain ⟨x, h1, rfl⟩ := h
    obtain ⟨t, k1, k2⟩ := hf e x h1
    exact ⟨_, fun v hv => L2.po_some (k1 v hv), rp_some k2⟩
theorem trCall_ok (g : Good C tab R X) {sc : Scope} {fnc : Str → Bool} {f : Expr → Option Ex} (hf : ∀ e x, f e = some x → PEd X sc fnc tab R e x) {x : Str} {args : List Expr} {kws : List Keyword} {y : Ex} {p pos : Pos} (h : trCall C tab sc f x args kws = some y) :
    PEd X sc fnc tab R (.Call (.Name x p) args kws pos) y := by
  unfold trCall at h
  split at h
  · next a =>
    split at h
    · next hb =>
      simp only [Option.ite_none_right_eq_some, Bool.and_eq_true, Bool.not_eq_true', Option.bind_eq_some_iff, Option.map_eq_some_iff] at h
      obtain ⟨⟨b1, b2⟩, o, h1, z, h2, rfl⟩ := h
      exact blt1_ok g h1 b1 (of_decide_eq_true hb) (hf _ _ h2) b2
    · exact trOwn_ok g hf h
  · next a b =>
    split at h
    · next hb =>
      simp only [Option.ite_none_right_eq_some, Bool.and_eq_true, Bool.not_eq_true'] at h
      obtain ⟨⟨⟨b1, b2⟩, b3⟩, h⟩ := h
      split at h
      · next e =>
        subst e
        split at h
        · next w _ =>
          simp only [Option.ite_none_right_eq_some, Bool.and_eq_true, decide_eq_true_eq, Option.bind_eq_some_iff, Option.map_eq_some_iff] at h
          obtain ⟨⟨c1, c2⟩, T, h1, z, h2, rfl⟩ := h
          exact isi_call_ok g h1 b1 (of_decide_eq_true hb) c1 c2 (hf _ _ h2) b2
        · cases h
      · simp only [Option.bind_eq_some_iff, Option.map_eq_some_iff] at h
        obtain ⟨o, h1, z, h2, w, h3, rfl⟩ := h
        exact blt2_ok g h1 b1 (of_decide_eq_true hb) (hf _ _ h2) (hf _ _ h3) b2 b3
    · exact trOwn_ok g hf h
  · exact trOwn_ok g hf h
theorem small_ok {xs : Exs} {es : List Expr} (h : small es = true) (hl : es.length = xs.len) : ∀ (env : En) (ds : List D) (env' : En), evs tab R xs env = some (ds, env') → ds.length ≤ sizeLine := fun env ds env' he => by
  rw [evs_len he, ← hl]
  have : es.length ≤ 1000 := of_decide_eq_true h
  exact Nat.le_of_lt (L2.small1000 this)
/-- the truth of an expression of no special form -/
def plainT : Expr → Bool
  | .UnaryOp .Not _ _ => false
  | .BoolOp _ _ _ => false
  | .Compare _ _ _ _ => false
  | .IfExp _ _ _ _ => false
  | _ => true
theorem plainT_ok {e : Expr} {env : PySem.Env} (h : plainT e = true) : ∀ whole, isTrue e env whole = (do let v ← whole; standAt e.pos; holding [v] (truthy v)) := by
  intro whole
  cases e <;> first | rfl | (simp [plainT] at h; done) | skip
  next op _ _ => cases op <;> first | rfl | (simp [plainT] at h; done)
theorem val_ok (g : Good C tab R X) {sc : Scope} {fnc : Str → Bool} {e : Expr} {x : Ex} (h : PEd X sc fnc tab R e x) (hp : plainT e = true) : PTd X sc fnc tab R e (.val x) := by
  obtain ⟨t, h1, h2⟩ := h
  exact ⟨fun σ H Q => t σ H fun x H' => ∃ k, L2.TruV X.K x H' k ∧ Q k H', fun v hv => L2.pt_truth (X := vary X v) (h1 v hv) (plainT_ok hp), rt_val h2⟩
theorem tr_ok (g : Good C tab R X) : ∀ n : Nat, (∀ sc fnc e x, trE C tab n sc fnc e = some x → PEd X sc fnc tab R e x) ∧ (∀ sc fnc e y, trT C tab n sc fnc e = some y → PTd X sc fnc tab R e y)
  | 0 => ⟨fun sc fnc e x h => by simp [trE] at h, fun sc fnc e x h => by simp [trT] at h⟩
  | n + 1 => by
    obtain ⟨hE, hT⟩ := tr_ok g n
    constructor
    · intro sc fnc e x h
      unfold trE at h
      split at h
      · exact trName_ok g h
      · exact trConst_ok h
      · simp only [Option.bind_eq_some_iff, Option.map_eq_some_iff] at h
        obtain ⟨o, h1, y, h2, z, h3, rfl⟩ := h
        exact bin_ok h1 (hE _ _ _ _ h2) (hE _ _ _ _ h3)
      · simp only [Option.map_eq_some_iff] at h
        obtain ⟨y, h1, rfl⟩ := h
        obtain ⟨t, k1, k2⟩ := hE _ _ _ _ h1
        exact ⟨_, fun v hv => L2.pe_not (k1 v hv), rd_not k2⟩
      · simp only [Option.map_eq_some_iff] at h
        obtain ⟨y, h1, rfl⟩ := h
        obtain ⟨t, k1, k2⟩ := hE _ _ _ _ h1
        exact ⟨_, fun v hv => L2.pe_un L2.un_neg (k1 v hv), rd_op1 k2 (fun _ _ _ z => z) fun e bx h q => pr_neg e bx h q⟩
      · exact trBoolV_ok (hE sc fnc) h
      · simp only [Option.bind_eq_some_iff, Option.map_eq_some_iff] at h
        obtain ⟨t, h1, y, h2, z, h3, rfl⟩ := h
        obtain ⟨tt, k1, k2⟩ := hT _ _ _ _ h1
        obtain ⟨ta, a1, a2⟩ := hE _ _ _ _ h2
        obtain ⟨tb, b1, b2⟩ := hE _ _ _ _ h3
        exact ⟨_, fun v hv => L2.pe_ifExp (k1 v hv) (a1 v hv) (b1 v hv), rd_ite k2 a2 b2⟩
      · exact (trCmp_ok g.units (hE sc fnc) h).1
      · simp only [Option.ite_none_right_eq_some, Option.map_eq_some_iff] at h
        obtain ⟨hs, xs, h1, rfl⟩ := h
        obtain ⟨⟨t, k1, k2⟩, k3, k4⟩ := trList_ok (hE sc fnc) h1
        exact ⟨_, fun v hv => L2.pe_tup (k1 v hv), rd_tup k2 (small_ok hs k4)⟩
      · simp only [Option.ite_none_right_eq_some, Option.map_eq_some_iff] at h
        obtain ⟨hs, xs, h1, rfl⟩ := h
        obtain ⟨⟨t, k1, k2⟩, k3, k4⟩ := trList_ok (hE sc fnc) h1
        exact ⟨_, fun v hv => L2.pe_lst (k1 v hv), rd_lst k2 (small_ok hs k4)⟩
      · simp only [Option.bind_eq_some_iff, Option.map_eq_some_iff] at h
        obtain ⟨y, h1, l, h2, r, h3, rfl⟩ := h
        exact slice_ok (hE _ _ _ _ h1) (optL_ok (hE sc fnc) h2) (optL_ok (hE sc fnc) h3)
      · simp only [Option.ite_none_left_eq_some, Option.bind_eq_some_iff, Option.map_eq_some_iff] at h
        obtain ⟨hs, y, h1, z, h2, rfl⟩ := h
        exact idx_ok' (hE _ _ _ _ h1) (hE _ _ _ _ h2) (by simpa using hs)
      · exact trCall_ok g (hE sc fnc) h
      · exact comp_ok g hE hT h
      · cases h
    · intro sc fnc e y h
      unfold trT at h
      split at h
      · simp only [Option.map_eq_some_iff] at h
        obtain ⟨z, h1, rfl⟩ := h
        obtain ⟨t, k1, k2⟩ := hT _ _ _ _ h1
        exact ⟨_, fun v hv => L2.pt_not (k1 v hv), rt_not k2⟩
      · obtain ⟨t, k1, k2⟩ := trBoolT_ok (hT sc fnc) (pos := by assumption) h
        exact ⟨t, fun v hv => (k1 v hv).pt, k2⟩
      · simp only [Option.map_eq_some_iff] at h
        obtain ⟨z, h1, rfl⟩ := h
        exact (trCmp_ok g.units (hE sc fnc) h1).2
      · cases h
      · next h1 h2 h3 h4 =>
        simp only [Option.map_eq_some_iff] at h
        obtain ⟨z, h5, rfl⟩ := h
        refine val_ok g (hE _ _ _ _ h5) ?_
        unfold plainT
        split
        · exact absurd rfl (h1 _ _)
        · exact absurd rfl (h2 _ _ _)
        · exact absurd rfl (h3 _ _ _ _)
        · exact absurd rfl (h4 _ _ _ _)
        · rfl
end
end Pv

set_option Elab.async false
set_option linter.all false
set_option maxRecDepth 100000
set_option maxHeartbeats 4000000
/-! PvC: statements, defs, whole programs. -/
namespace Pv
open PySem PySem.Spec
open L2 (V Hp HO VK TE TT TA TS TG TGs TI Ends Cx Inv PE PT PW PA PS PSs PG PGs PI SqL SqT Rd upd upd_same upd_ne Vals RelV Sp XK It R2 OpR CallR IxR SlR UnR Dp DpAll rI rI0 tVar tC tOp tUn tCons tNil tTup tLst tCB tTest wipe Gl Vis Loc)

def isTupE : Expr → Bool
  | .Tuple _ _ _ => true
  | _ => false
def okTg : Expr → Bool
  | .Name _ _ => true
  | .Tuple _ _ _ => true
  | _ => false
theorem stores_name {x : Str} {p : Pos} {e : Expr} {env : PySem.Env} : swappedStores [.Name x p] e env = pure none := by cases e <;> rfl
theorem stores_tup {es : List Expr} {k : Nat} {p : Pos} {e : Expr} {env : PySem.Env} (h : isTupE e = false) : swappedStores [.Tuple es k p] e env = pure none := by
  cases e <;> first | rfl | (simp [isTupE] at h)
/-- a, b = x, y by places -/
def swapB (sc : Scope) (ts vs : List Expr) : Option (List Str) :=
  if !(ts.length == 2 || ts.length == 3) || vs.length != ts.length then none
  else if vs.any isStar then none
  else
    let line := (ts.head?.map (·.pos.line)).getD 0
    let names := ts.filterMap fun
      | .Name id pos => if (match sc.names.lookup id with | some .local => true | _ => false) && pos.line == line then some id else none
      | _ => none
    if names.length != ts.length || names.eraseDups.length != names.length then none
    else if vs.all (foldedForSure 8) then none
    else if vs.all (constantsAlone 8) then none
    else some names
section
variable {C : Cfg} {tab : Nat → Option Fn} {R : Rn} {X : Cx} {sc : Scope} {fnc : Str → Bool} {fu : Nat}
theorem loc_bool {o : Option NameKind} : (o == some NameKind.local) = (match o with | some .local => true | _ => false) := by
  cases o with
  | none => rfl
  | some k => cases k <;> rfl
theorem any_star {vs : List Expr} : (vs.any fun | .Starred .. => true | _ => false) = vs.any isStar := by
  congr 1
theorem swap_ok {v : Vy} (gv : GV sc fnc v) (hk : sc.kind = .function) {ts vs : List Expr} {k k2 : Nat} {p p2 : Pos} {names : List Str} (h : swapB sc ts vs = some names) : swappedStores [.Tuple ts k p] (.Tuple vs k2 p2) v.env = pure (some names) := by
  unfold swapB at h
  split at h
  · cases h
  · next c1 =>
    split at h
    · cases h
    · next c2 =>
      dsimp only at h
      split at h
      · cases h
      · next c3 =>
        split at h
        · cases h
        · next c4 =>
          split at h
          · cases h
          · next c5 =>
            cases h
            have hb : v.env.blockKind = .function := by unfold Env.blockKind; rw [gv.hsc, hk]; rfl
            unfold swappedStores
            have c1' : (!(ts.length == 2 || ts.length == 3) || vs.length != ts.length || v.env.blockKind != .function) = false := by
              rw [hb]
              simp only [Bool.not_eq_true] at c1
              rw [c1]; rfl
            have key : ∀ f : Expr → Bool, (∀ e, f e = isStar e) → vs.any f = vs.any isStar := fun f h => by
              have : f = isStar := funext h
              rw [this]
            have key2 : ∀ f : Expr → Option Str, (∀ e, f e = (match e with
                | .Name id pos => if ((match sc.names.lookup id with | some .local => true | _ => false) && pos.line == (ts.head?.map (·.pos.line)).getD 0) = true then some id else none
                | _ => none)) → ts.filterMap f = ts.filterMap fun x => match x with
                | .Name id pos => if ((match sc.names.lookup id with | some .local => true | _ => false) && pos.line == (ts.head?.map (·.pos.line)).getD 0) = true then some id else none
                | _ => none := fun f h => by
              have : f = _ := funext h
              rw [this]
            simp only [c1', if_false, Bool.false_eq_true]
            rw [key _ (by intro e; cases e <;> rfl)]
            rw [key2 _ (by
              intro e
              cases e <;> first | rfl | skip
              next id pos =>
                show (if ((v.env.scope.names.lookup id == some .local) && _) = true then _ else _) = _
                rw [gv.hsc, loc_bool])]
            simp only [c2, c3, c4, c5, if_false, Bool.false_eq_true]

/-! ### assignments -/
theorem asg_ok (g : Good C tab R X) {tg e : Expr} {T : Tg} {x : Ex} {pos : Pos} (hg : PGd X sc fnc tg T) (he : PEd X sc fnc tab R e x) (hi : ∀ j ∈ T.slots, j ∉ C.io) (hc : isComp e = false ∨ isTupE tg = true) (ho : okTg tg = true) (hw : isTupE tg = true → isTupE e = false) :
    PSd X sc fnc tab R fu C.io (.Assign [tg] e pos) (.asg T x) := by
  obtain ⟨gg, g1, g2⟩ := hg
  obtain ⟨t, h1, h2⟩ := he
  refine ⟨_, fun v hv => L2.ps_asg (h1 v hv) (g1 v hv) ?_ ?_ ?_, rs_asg h2 g2 hi⟩
  · show swapsWith e (some tg) pos.line v.env = pure false
    rcases hc with hc | hc
    · exact sw_ok hc
    · cases tg <;> first | (simp [isTupE] at hc; done) | skip
      cases e <;> rfl
  · cases tg <;> first | (simp [okTg] at ho; done) | skip
    · exact stores_name
    · exact stores_tup (hw rfl)
  · cases tg <;> first | (simp [okTg] at ho; done) | rfl
theorem sw_false {elt : Expr} {gs : List Comprehension} {scope : Scope} {pos py : Pos} {y : Str} {l : Nat} {env : PySem.Env} {sc : Scope} (hs : env.scope = sc) (hk : sc.kind = .function)
    (h : ((match sc.names.lookup y with | some .local => true | _ => false) && py.line == pos.line && !(scope.names.any fun (n, k) => n == y && (k == .local || k == .cell))) = false) : swapsWith (.ListComp elt gs scope pos) (some (.Name y py)) l env = pure false := by
  have hb : env.blockKind = .function := by unfold Env.blockKind; rw [hs, hk]; rfl
  have ky : (env.kindOf y == some .local) = (match sc.names.lookup y with | some .local => true | _ => false) := by
    show (env.scope.names.lookup y == some .local) = _
    rw [hs, loc_bool]
  unfold swapsWith
  simp only [hb, ky, Expr.pos]
  show pure (true && _ && _ && _) = _
  rw [Bool.true_and, h]
theorem asgComp_ok (g : Good C tab R X) (hk : sc.kind = .function) {fE : Scope → (Str → Bool) → Expr → Option Ex} {fT : Scope → (Str → Bool) → Expr → Option Tt} (hE : ∀ sc fnc e x, fE sc fnc e = some x → PEd X sc fnc tab R e x) (hT : ∀ sc fnc e x, fT sc fnc e = some x → PTd X sc fnc tab R e x)
    {elt tg iter : Expr} {ifs : List Expr} {scope : Scope} {z : Ex} {py cpos pos : Pos} {y : Str} {i : Nat} (h : trComp C sc fnc fE fT elt tg iter ifs scope = some z) (hl : locB sc fnc y = true) (hi : idx C.N y = some i) (hio : i ∉ C.io) :
    PSd X sc fnc tab R fu C.io (.Assign [.Name y py] (.ListComp elt [⟨tg, iter, ifs, 0⟩] scope cpos) pos) (.asg (.name i) z) := by
  have hj : ∀ j ∈ (Tg.name i).slots, j ∉ C.io := fun j z => by
    simp only [Tg.slots, List.mem_cons, List.not_mem_nil, or_false] at z
    rw [z]; exact hio
  have nd : X.N.Nodup := by rw [g.hN]; exact g.nd
  have hx : X.N[i]? = some y := by rw [g.hN]; exact idx_ok hi
  obtain ⟨wi, gg, tt, te, h1, h2, h3⟩ := comp_parts g hE hT h
  refine ⟨_, fun v hv => ?_, rs_asg h3 (rg_name (i := i)) hj⟩
  obtain ⟨a1, a2, a3, a4, a5⟩ := h1 v hv
  cases hsw : ((match sc.names.lookup y with | some .local => true | _ => false) && py.line == cpos.line && !(scope.names.any fun (n, k) => n == y && (k == .local || k == .cell))) with
  | true =>
    rw [Bool.and_eq_true, Bool.and_eq_true] at hsw
    have hy : sc.names.lookup y = some .local := by
      have := hsw.1.1
      split at this
      · assumption
      · cases this
    have hy' : v.env.scope.names.lookup y = some .local := by rw [hv.hsc]; exact hy
    exact L2.ps_setLc (X := vary X v) g.calm nd hx hy' (L2.sw_true (by show v.env.scope.kind = _; rw [hv.hsc]; exact hk) hy' hsw.1.2 (by simpa using hsw.2)) a1 a2 a3 a4 a5 (h2 _)
  | false =>
    exact L2.ps_asg (L2.pe_lc (X := vary X v) g.calm nd a1 a2 a3 a4 a5 (h2 _)) (pg_ok g hv hl hi) (sw_false (l := pos.line) hv.hsc hk hsw) stores_name rfl
def slotL (C : Cfg) (sc : Scope) (x : Str) : Option Nat := match sc.names.lookup x with
  | some .local => (idx C.N x).bind fun i => if i ∈ C.io then none else some i
  | _ => none
theorem slotL_ok {x : Str} {i : Nat} (h : slotL C sc x = some i) : sc.names.lookup x = some .local ∧ C.N[i]? = some x ∧ i ∉ C.io := by
  unfold slotL at h
  split at h
  · next e =>
    simp only [Option.bind_eq_some_iff, Option.ite_none_left_eq_some, Option.some.injEq] at h
    obtain ⟨j, h1, h2, rfl⟩ := h
    exact ⟨e, idx_ok h1, h2⟩
  · cases h
/-- a, b = x, y -/
def trPar (C : Cfg) (sc : Scope) (f : Expr → Option Ex) (ts vs : List Expr) : Option Sm := match ts, vs with
  | [.Name x _, .Name y _], [a, b] => if swapB sc ts vs = some [x, y] then (slotL C sc x).bind fun i => (slotL C sc y).bind fun j => if i = j then none else (trList f [a, b]).map fun xs => .par [i, j] xs else none
  | [.Name x _, .Name y _, .Name z _], [a, b, c] => if swapB sc ts vs = some [x, y, z] then (slotL C sc x).bind fun i => (slotL C sc y).bind fun j => (slotL C sc z).bind fun l => if i = j ∨ i = l ∨ j = l then none else (trList f [a, b, c]).map fun xs => .par [i, j, l] xs else none
  | _, _ => none
theorem trPar_ok (g : Good C tab R X) (hk : sc.kind = .function) {f : Expr → Option Ex} (hf : ∀ e x, f e = some x → PEd X sc fnc tab R e x) {ts vs : List Expr} {s : Sm} {k k2 : Nat} {p p2 pos : Pos} (h : trPar C sc f ts vs = some s) :
    PSd X sc fnc tab R fu C.io (.Assign [.Tuple ts k p] (.Tuple vs k2 p2) pos) s := by
  have nd : X.N.Nodup := by rw [g.hN]; exact g.nd
  unfold trPar at h
  split at h
  · simp only [Option.ite_none_right_eq_some, Option.ite_none_left_eq_some, Option.bind_eq_some_iff, Option.map_eq_some_iff] at h
    obtain ⟨hw, i, hi, j, hj, hij, xs, h1, rfl⟩ := h
    obtain ⟨i1, i2, i3⟩ := slotL_ok hi
    obtain ⟨j1, j2, j3⟩ := slotL_ok hj
    obtain ⟨⟨t, k1, k2⟩, _, _⟩ := trList_ok hf h1
    exact ⟨_, fun v hv => L2.ps_par (X := vary X v) g.calm nd (by show X.N[i]? = _; rw [g.hN]; exact i2) (by show X.N[j]? = _; rw [g.hN]; exact j2) hij (by show v.env.scope.names.lookup _ = _; rw [hv.hsc]; exact i1) (by show v.env.scope.names.lookup _ = _; rw [hv.hsc]; exact j1) (k1 v hv) (swap_ok hv hk hw) rfl, rs_par2 k2 i3 j3⟩
  · simp only [Option.ite_none_right_eq_some, Option.ite_none_left_eq_some, Option.bind_eq_some_iff, Option.map_eq_some_iff, not_or] at h
    obtain ⟨hw, i, hi, j, hj, l, hl, ⟨hij, hil, hjl⟩, xs, h1, rfl⟩ := h
    obtain ⟨i1, i2, i3⟩ := slotL_ok hi
    obtain ⟨j1, j2, j3⟩ := slotL_ok hj
    obtain ⟨l1, l2, l3⟩ := slotL_ok hl
    obtain ⟨⟨t, k1, k2⟩, _, _⟩ := trList_ok hf h1
    exact ⟨_, fun v hv => L2.ps_par3 (X := vary X v) g.calm nd (by show X.N[i]? = _; rw [g.hN]; exact i2) (by show X.N[j]? = _; rw [g.hN]; exact j2) (by show X.N[l]? = _; rw [g.hN]; exact l2) hij hil hjl (by show v.env.scope.names.lookup _ = _; rw [hv.hsc]; exact i1) (by show v.env.scope.names.lookup _ = _; rw [hv.hsc]; exact j1) (by show v.env.scope.names.lookup _ = _; rw [hv.hsc]; exact l1) (k1 v hv) (swap_ok hv hk hw) rfl, rs_par3 k2 i3 j3 l3⟩
  · cases h

/-! ### x op= e, x[k] = e, x.append(e) -/
def augOp : Operator → Option Op
  | .Add => some .add
  | .Sub => some .sub
  | .Mult => some .mul
  | _ => none
theorem iop_mulP {X : Cx} : L2.PIp X .Mult (fun x y H Q => rI L2.CMul (fun i j => .int (i * j)) x y H Q ∨ rI L2.CMulW (fun i j => .int (i * j)) x y H Q) := by
  have h1 : OpR X (inplaceOp .Mult) (rI L2.CMul fun i j => .int (i * j)) := L2.iop_mul
  have h2 : OpR X (inplaceOp .Mult) (rI L2.CMulW fun i j => .int (i * j)) := L2.opI fun _ _ _ _ _ _ _ hc q => PyProof.Rows.imul_int q hc.ok
  exact h1.or h2
theorem aug_ok (g : Good C tab R X) {op : Operator} {o : Op} {x : Str} {i : Nat} {e : Expr} {y : Ex} {p pos : Pos} (ho : augOp op = some o) (hl : locB sc fnc x = true) (hi : idx C.N x = some i) (hio : i ∉ C.io) (he : PEd X sc fnc tab R e y) :
    PSd X sc fnc tab R fu C.io (.AugAssign (.Name x p) op e pos) (.aug i o y) := by
  obtain ⟨t, h1, h2⟩ := he
  have nd : X.N.Nodup := by rw [g.hN]; exact g.nd
  have hx : X.N[i]? = some x := by rw [g.hN]; exact idx_ok hi
  have lc : ∀ v, GV sc fnc v → Loc v.env.scope x ∧ (v.fn x = true ∨ v.env.scope.names.lookup x = some .local) := fun v hv => by
    unfold locB at hl
    split at hl
    · next e => exact ⟨.inl (by rw [hv.hsc]; exact e), .inr (by rw [hv.hsc]; exact e)⟩
    · next e => exact ⟨.inr (by rw [hv.hsc]; exact e), .inl (hv.fn x hl)⟩
    · cases hl
  cases op <;> first | (simp [augOp] at ho; done) | skip
  · simp [augOp] at ho; subst ho
    refine ⟨_, fun v hv => L2.ps_aug (X := vary X v) nd hx (lc v hv).1 (h1 v hv) L2.ip_add (lc v hv).2, rs_aug h2 hio (fun a b z H Q hp q => ?_) fun a d z hp => ?_⟩
    · simp [prim, pAdd] at hp; subst hp; exact ⟨a, b, rfl, rfl, q⟩
    · cases d <;> first | (simp [prim, pAdd] at hp; done) | exact ⟨_, rfl⟩
  · simp [augOp] at ho; subst ho
    refine ⟨_, fun v hv => L2.ps_aug (X := vary X v) nd hx (lc v hv).1 (h1 v hv) L2.ip_sub (lc v hv).2, rs_aug h2 hio (fun a b z H Q hp q => ?_) fun a d z hp => ?_⟩
    · simp [prim, pSub] at hp; subst hp; exact ⟨a, b, rfl, rfl, q⟩
    · cases d <;> first | (simp [prim, pSub] at hp; done) | exact ⟨_, rfl⟩
  · simp [augOp] at ho; subst ho
    refine ⟨_, fun v hv => L2.ps_aug (X := vary X v) nd hx (lc v hv).1 (h1 v hv) iop_mulP (lc v hv).2, rs_aug h2 hio (fun a b z H Q hp q => ?_) fun a d z hp => ?_⟩
    · simp only [prim, pMul, Option.ite_none_right_eq_some, Option.some.injEq, D.int.injEq] at hp
      obtain ⟨hm, rfl⟩ := hp
      unfold mulOk at hm
      rw [Bool.or_eq_true, Bool.or_eq_true] at hm
      rcases hm with (hm | hm) | hm
      · exact .inl ⟨a, b, rfl, rfl, .inl (of_decide_eq_true hm), q⟩
      · exact .inl ⟨a, b, rfl, rfl, .inr (of_decide_eq_true hm), q⟩
      · have hm2 : L2.CMulW a b := by have := of_decide_eq_true hm; exact this
        exact .inr ⟨a, b, rfl, rfl, hm2, q⟩
    · cases d <;> first | (simp [prim, pMul] at hp; done) | exact ⟨_, rfl⟩
theorem put_ok (g : Good C tab R X) {x : Str} {i : Nat} {k e : Expr} {yk ye : Ex} {p p2 pos : Pos} (hx : trVar C sc x = some i) (hk : PEd X sc fnc tab R k yk) (he : PEd X sc fnc tab R e ye) (hs : isSlice k = false) (hc : isComp e = false) :
    PSd X sc fnc tab R fu C.io (.Assign [.Subscript (.Name x p) k p2] e pos) (.put i yk ye) := by
  obtain ⟨tk, k1, k2⟩ := hk
  obtain ⟨te, e1, e2⟩ := he
  refine ⟨_, fun v hv => L2.ps_asg (e1 v hv) (L2.pg_sub (trVar_ok g hv hx) (k1 v hv) L2.set_list ?_) (show swapsWith e (some (.Subscript (.Name x p) k p2)) pos.line v.env = pure false from sw_ok hc) ?_ rfl, rs_put k2 e2⟩
  · intro w
    cases k <;> first | rfl | (simp [isSlice] at hs)
  · cases e <;> rfl
theorem app_ok (g : Good C tab R X) {x : Str} {i : Nat} {a : Expr} {ya : Ex} {p ap cp pos : Pos} (hx : trVar C sc x = some i) (ha : PEd X sc fnc tab R a ya) (hn : isStar a = false) (hline : (ap.endLine == cp.line) = true) :
    PSd X sc fnc tab R fu C.io (.Expr (.Call (.Attribute (.Name x p) "append" ap) [a] [] cp) pos) (.app i ya) := by
  obtain ⟨ta, a1, a2⟩ := ha
  refine ⟨L2.tDrop (L2.tBM X.K "list" L2.rAppend (tVar i) (tCons ta tNil)), fun v hv => L2.ps_expr (L2.pe_bm (X := vary X v) PySem.F.plainAttrs_list PySem.F.slot_list_append PySem.F.type_list_append L2.mt_append (trVar_ok g hv hx) (L2.pa_cons (a1 v hv) L2.pa_nil (star_ok hn)) rfl ?_ hline (star_ok hn) rfl) rfl, rs_app a2⟩
  rw [star_ok hn]
  rfl
end

/-! ### statements -/
def trSL (f : Stmt → Option Sm) : List Stmt → Option Sms
  | [] => some .nil
  | s :: r => (f s).bind fun x => (trSL f r).map fun xs => .cons x xs
def tgOk (C : Cfg) (T : Tg) : Bool := T.slots.all fun j => !decide (j ∈ C.io)
def trS (C : Cfg) (tab : Nat → Option Fn) (m : Nat) (sc : Scope) (fnc : Str → Bool) : Nat → Stmt → Option Sm
  | 0, _ => none
  | n + 1, st => match st with
    | .Assign [.Tuple ts k p] (.Tuple vs k2 p2) _ => (match trPar C sc (trE C tab m sc fnc) ts vs with
      | some s => some s
      | none => none)
    | .Assign [.Name y py] (.ListComp elt [⟨tg, iter, ifs, 0⟩] scope _) _ => if locB sc fnc y then (idx C.N y).bind fun i => if i ∈ C.io then none else (trComp C sc fnc (trE C tab m) (trT C tab m) elt tg iter ifs scope).map fun x => .asg (.name i) x else none
    | .Assign [.Subscript (.Name x _) k _] e _ => if isSlice k || isComp e then none else (trVar C sc x).bind fun i => (trE C tab m sc fnc k).bind fun a => (trE C tab m sc fnc e).map fun b => .put i a b
    | .Assign [tg] e _ => if okTg tg && (!isComp e || isTupE tg) then (trG C sc fnc tg).bind fun T => if tgOk C T then (trE C tab m sc fnc e).map fun x => .asg T x else none else none
    | .AugAssign (.Name x _) op e _ => if locB sc fnc x then (augOp op).bind fun o => (idx C.N x).bind fun i => if i ∈ C.io then none else (trE C tab m sc fnc e).map fun y => .aug i o y else none
    | .Expr (.Constant (.str _) _ _) _ => some .pass
    | .Expr (.Call (.Attribute (.Name x _) a ap) [e] [] cp) _ => if a = "append" && (ap.endLine == cp.line) && !isStar e then (trVar C sc x).bind fun i => (trE C tab m sc fnc e).map fun y => .app i y else none
    | .Expr e _ => if isComp e then none else (trE C tab m sc fnc e).map .expr
    | .Return none _ => some .retn
    | .Return (some e) _ => (trE C tab m sc fnc e).map .ret
    | .If c a b _ => (trT C tab m sc fnc c).bind fun t => (trSL (trS C tab m sc fnc n) a).bind fun x => (trSL (trS C tab m sc fnc n) b).map fun y => .ite t x y
    | .For tg it body [] _ => (trG C sc fnc tg).bind fun T => if tgOk C T then (trI C sc (trE C tab m sc fnc) tg it).bind fun p => (trSL (trS C tab m sc fnc n) body).map fun x => .loop T p.1 p.2 x else none
    | .While c body [] _ => (trT C tab m sc fnc c).bind fun t => (trSL (trS C tab m sc fnc n) body).map fun x => .whl t x
    | .Pass _ => some .pass
    | .Break _ => some .brk
    | .Continue _ => some .cnt
    | .Raise _ _ _ => some .never
    | _ => none
section
variable {C : Cfg} {tab : Nat → Option Fn} {R : Rn} {X : Cx} {sc : Scope} {fnc : Str → Bool} {fu : Nat}
theorem trSL_ok {f : Stmt → Option Sm} (hf : ∀ s x, f s = some x → PSd X sc fnc tab R fu C.io s x) : ∀ {ss : List Stmt} {xs : Sms}, trSL f ss = some xs → PSsd X sc fnc tab R fu C.io ss xs
  | [], xs, h => by simp [trSL] at h; subst h; exact ⟨_, fun _ _ => L2.pss_nil, rss_nil⟩
  | s :: r, xs, h => by
    simp only [trSL, Option.bind_eq_some_iff, Option.map_eq_some_iff] at h
    obtain ⟨x, h1, ys, h2, rfl⟩ := h
    obtain ⟨t, k1, k2⟩ := hf s x h1
    obtain ⟨u, m1, m2⟩ := trSL_ok hf h2
    exact ⟨_, fun v hv => L2.pss_cons (k1 v hv) (m1 v hv), rss_cons k2 m2⟩
theorem tgOk_ok {T : Tg} (h : tgOk C T = true) : ∀ j ∈ T.slots, j ∉ C.io := fun j hj => by
  have := List.all_eq_true.mp h j hj
  simpa using this
theorem trS_ok (g : Good C tab R X) (hk : sc.kind = .function) {m : Nat} : ∀ (n : Nat) (st : Stmt) (s : Sm), trS C tab m sc fnc n st = some s → PSd X sc fnc tab R fu C.io st s
  | 0, st, s, h => by simp [trS] at h
  | n + 1, st, s, h => by
    have hE := (tr_ok g m).1
    have hT := (tr_ok g m).2
    have ih : ∀ (st : Stmt) (s : Sm), trS C tab m sc fnc n st = some s → PSd X sc fnc tab R fu C.io st s := fun st s => trS_ok g hk n st s
    unfold trS at h
    split at h
    · split at h
      · next s' hs => cases h; exact trPar_ok g hk (hE sc fnc) hs
      · cases h
    · simp only [Option.ite_none_right_eq_some, Option.ite_none_left_eq_some, Option.bind_eq_some_iff, Option.map_eq_some_iff] at h
      obtain ⟨hl, i, hi, hio, x, h1, rfl⟩ := h
      exact asgComp_ok g hk hE hT h1 hl hi hio
    · simp only [Option.ite_none_left_eq_some, Bool.or_eq_true, not_or, Bool.not_eq_true, Option.bind_eq_some_iff, Option.map_eq_some_iff] at h
      obtain ⟨⟨c1, c2⟩, i, hi, a, h1, b, h2, rfl⟩ := h
      exact put_ok g hi (hE _ _ _ _ h1) (hE _ _ _ _ h2) c1 c2
    · next tg e _ n1 n2 n3 =>
      simp only [Option.ite_none_right_eq_some, Bool.and_eq_true, Bool.or_eq_true, Bool.not_eq_true', Option.bind_eq_some_iff, Option.map_eq_some_iff] at h
      obtain ⟨⟨c1, c2⟩, T, h1, c3, x, h2, rfl⟩ := h
      refine asg_ok g (trG_ok g h1) (hE _ _ _ _ h2) (tgOk_ok c3) c2 c1 fun ht => ?_
      cases tg <;> first | (simp [isTupE] at ht; done) | skip
      cases e <;> first | rfl | exact absurd rfl (n1 _ _ _ _ _ _ rfl)
    · simp only [Option.ite_none_right_eq_some, Option.ite_none_left_eq_some, Option.bind_eq_some_iff, Option.map_eq_some_iff] at h
      obtain ⟨hl, o, ho, i, hi, hio, y, h1, rfl⟩ := h
      exact aug_ok g ho hl hi hio (hE _ _ _ _ h1)
    · cases h
      exact ⟨_, fun _ _ => L2.ps_doc, rs_pass⟩
    · simp only [Option.ite_none_right_eq_some, Bool.and_eq_true, Bool.not_eq_true', decide_eq_true_eq, Option.bind_eq_some_iff, Option.map_eq_some_iff] at h
      obtain ⟨⟨⟨rfl, c1⟩, c2⟩, i, hi, y, h1, rfl⟩ := h
      exact app_ok g hi (hE _ _ _ _ h1) c2 c1
    · simp only [Option.ite_none_left_eq_some, Bool.not_eq_true, Option.map_eq_some_iff] at h
      obtain ⟨c1, x, h1, rfl⟩ := h
      obtain ⟨t, k1, k2⟩ := hE _ _ _ _ h1
      exact ⟨_, fun v hv => L2.ps_expr (k1 v hv) (sw_ok c1), rs_expr k2⟩
    · cases h
      exact ⟨_, fun _ _ => L2.ps_retN, rs_retn⟩
    · simp only [Option.map_eq_some_iff] at h
      obtain ⟨x, h1, rfl⟩ := h
      obtain ⟨t, k1, k2⟩ := hE _ _ _ _ h1
      exact ⟨_, fun v hv => L2.ps_ret (k1 v hv), rs_ret k2⟩
    · simp only [Option.bind_eq_some_iff, Option.map_eq_some_iff] at h
      obtain ⟨t, h1, x, h2, y, h3, rfl⟩ := h
      obtain ⟨tt, k1, k2⟩ := hT _ _ _ _ h1
      obtain ⟨ta, a1, a2⟩ := trSL_ok ih h2
      obtain ⟨tb, b1, b2⟩ := trSL_ok ih h3
      exact ⟨_, fun v hv => L2.ps_if (k1 v hv) (a1 v hv) (b1 v hv), rs_ite k2 a2 b2⟩
    · simp only [Option.bind_eq_some_iff, Option.ite_none_right_eq_some, Option.map_eq_some_iff] at h
      obtain ⟨T, h1, c1, ⟨k, xs⟩, h2, x, h3, rfl⟩ := h
      obtain ⟨gg, g1, g2⟩ := trG_ok g h1
      obtain ⟨⟨wi, i1, i2⟩, i3⟩ := trI_ok g (hE sc fnc) h2
      obtain ⟨ta, a1, a2⟩ := trSL_ok ih h3
      exact ⟨_, fun v hv => L2.ps_for (X := vary X v) (by rw [show (vary X v).xe = fun _ _ => False from hv.xe]; exact PassesOwn.never) g.calm (i1 v hv) (g1 v hv) (a1 v hv) (fold_ok i3), rs_loop i2 g2 a2 (tgOk_ok c1)⟩
    · simp only [Option.bind_eq_some_iff, Option.map_eq_some_iff] at h
      obtain ⟨t, h1, x, h2, rfl⟩ := h
      obtain ⟨tt, k1, k2⟩ := hT _ _ _ _ h1
      obtain ⟨ta, a1, a2⟩ := trSL_ok ih h2
      exact ⟨_, fun v hv => L2.ps_while (X := vary X v) (by rw [show (vary X v).xe = fun _ _ => False from hv.xe]; exact PassesOwn.never) (k1 v hv) (a1 v hv), rs_whl k2 a2⟩
    · cases h; exact ⟨_, fun _ _ => L2.ps_pass, rs_pass⟩
    · cases h; exact ⟨_, fun _ _ => L2.ps_break, rs_brk⟩
    · cases h; exact ⟨_, fun _ _ => L2.ps_continue, rs_cnt⟩
    · cases h; exact ⟨_, fun _ _ => L2.ps_never, rs_never⟩
    · cases h
end
end Pv

set_option Elab.async false
set_option linter.all false
set_option maxRecDepth 100000
set_option maxHeartbeats 4000000
/-! PvD: a def of the text keeps its promise; the law's end. -/
namespace Pv
open PySem PySem.Spec
open L2 (V Hp HO VK TE TT TA TS TG TGs TI Ends Cx Inv PE PT PW PA PS PSs PG PGs PI SqL SqT Rd upd upd_same upd_ne Vals RelV Sp XK It R2 OpR CallR IxR SlR UnR Dp DpAll tVar tC tOp tUn tCons tNil tTup tLst tCB tTest wipe Gl Vis Loc)

/-- what the text says of a def -/
structure RowAt (K : Frag) (mg : Str → Option Value) (tab : Nat → Option Fn) (fis : List FI) (blt : List Str) (cons : List (Str × D)) (fn : Fn) (fi : FI) (adr : Addr) (fd : FuncData) (ps : List Str) : Prop where
  def_ : ∃ (x qual : Str) (st : Stmt) (N : List Str) (dvs : List V) (kws : List (Str × V)), L2.FunD K x qual (L2.defArgs st) (L2.defBody st) (L2.defScope st) dvs kws adr fd ∧ L2.FnScope N ps (L2.defScope st) ∧
    trSL (trS ⟨N, fn.io, fis, blt, cons⟩ tab 60 (L2.defScope st) (fun _ => true) 60) (L2.defBody st) = some fn.body ∧ N.length = fn.slots
  np : ps.length = fn.np
  le : fn.np ≤ fn.slots
  io : ∀ k ∈ fn.io, k < fn.np
  nd : fn.io.Nodup
  mg : mg fi.name = some (.ref adr)
  sh : ∀ (sh : Nat) (shp : Shape) (npos : Nat) (ks : List Str), fn.shapes[sh]? = some shp → fi.shapes[sh]? = some (npos, ks) → ∃ g gV, L2.KBn K fd ps npos ks g gV ∧ shp.ord.length = fn.np ∧ ∀ vs zs : List V, vs.length = npos → zs.length = ks.length → ArrV K (vs ++ zs) shp.ord (gV vs zs)

theorem get_some {α : Type} {l : List α} {k : Nat} {y : α} (z : (l.map some)[k]? = some (some y)) : l[k]? = some y := by
  rw [List.getElem?_map] at z
  cases hq : l[k]? with
  | none => rw [hq] at z; cases z
  | some w => rw [hq] at z; simp at z; rw [z]
theorem pad_get {α : Type} {l : List α} {n k : Nat} {y : α} (z : (l.map some ++ List.replicate n (none : Option α))[k]? = some (some y)) : l[k]? = some y := by
  by_cases hk : k < l.length
  · rw [List.getElem?_append_left (by simpa using hk)] at z
    exact get_some z
  · rw [List.getElem?_append_right (by simpa using hk)] at z
    rw [List.getElem?_replicate] at z
    split at z <;> cases z
theorem pad_put {α : Type} {l : List α} {n k : Nat} {y : α} (z : l[k]? = some y) : (l.map some ++ List.replicate n (none : Option α))[k]? = some (some y) := by
  have hk : k < l.length := (List.getElem?_eq_some_iff.mp z).1
  rw [List.getElem?_append_left (by simpa using hk), List.getElem?_map, z]
  rfl
theorem outs_get {env : En} : ∀ {io : List Nat} {os : List (List D)}, outs env io = some os → ∀ (j k : Nat) (xs : List D), io[j]? = some k → os[j]? = some xs → env[k]? = some (some (.own xs))
  | [], os, h, j, k, xs, e1, e2 => by simp at e1
  | i :: is, os, h, j, k, xs, e1, e2 => by
    simp only [outs] at h
    split at h
    · next ys hy =>
      simp only [Option.map_eq_some_iff] at h
      obtain ⟨r, h1, rfl⟩ := h
      cases j with
      | zero => simp at e1 e2; subst e1 e2; exact hy
      | succ j => exact outs_get h1 j k xs (by simpa using e1) (by simpa using e2)
    · cases h
theorem outs_mem {env : En} : ∀ {io : List Nat} {os : List (List D)}, outs env io = some os → ∀ k ∈ io, ∃ xs, env[k]? = some (some (.own xs))
  | [], os, h, k, hk => by simp at hk
  | i :: is, os, h, k, hk => by
    simp only [outs] at h
    split at h
    · next ys hy =>
      simp only [Option.map_eq_some_iff] at h
      obtain ⟨r, h1, rfl⟩ := h
      rcases List.mem_cons.mp hk with e | e
      · subst e; exact ⟨ys, hy⟩
      · exact outs_mem h1 k e
    · cases h

section
variable {P : Program} {w : World} {K : Frag} {mg : Str → Option Value} {base : Heap} {tab : Nat → Option Fn} {fis : List FI} {blt : List Str} {cons : List (Str × D)} {fu : Nat}
theorem rows_ok (rows : ∀ f fn fi, tab f = some fn → fis[f]? = some fi → ∃ adr fd ps, RowAt K mg tab fis blt cons fn fi adr fd ps) (hb : ∀ b ∈ blt, mg b = none) (hc : ∀ p ∈ cons, ∃ u v, mg p.1 = some u ∧ RelV v u ∧ ∀ O H, Rep K O H v p.2) :
    ∀ (n f : Nat) (fn : Fn) (fi : FI) (adr : Addr) (fd : FuncData) (ps : List Str), tab f = some fn → RowAt K mg tab fis blt cons fn fi adr fd ps → L2.FnOk P w K mg base L2.CX0 n adr fd ps (spF K (run tab fu n) f fn)
  | 0, f, fn, fi, adr, fd, ps, hf, r => by
    refine ⟨fun vs H Q E h => ?_, fun A outer s H args us vs Q E hr e0 hbd hv h => ?_⟩
    · obtain ⟨O, ds, d, os, h1, _⟩ := h
      rw [h1, r.np]
    · obtain ⟨O, ds, d, os, h1, h2, h3, h4, _⟩ := h
      simp [run] at h4
  | n + 1, f, fn, fi, adr, fd, ps, hf, r => by
    obtain ⟨x, qual, st, N, dvs, kws, F, S, hbody, hN⟩ := r.def_
    refine F.ok S (fun vs H Q E h => ?_) fun cdv A outer s H vs Q E hr h => ?_
    · obtain ⟨O, ds, d, os, h1, _⟩ := h
      rw [h1, r.np]
    · obtain ⟨O, ds, d, os, h1, h2, h3, h4, hq⟩ := h
      generalize hX : (L2.cxOf L2.CX0 P w K mg base N qual (L2.defScope st) adr cdv A outer s H E).nox = X
      have hXK : X.K = K := by rw [← hX]; rfl
      have g : Good ⟨N, fn.io, fis, blt, cons⟩ tab (run tab fu n) X := by
        subst hX
        refine ⟨rfl, S.nd, rfl, hr.units, hb, hc, fun f' fn' fi' hf' hfi' => ?_⟩
        obtain ⟨adr', fd', ps', r'⟩ := rows f' fn' fi' hf' hfi'
        have ok := rows_ok rows hb hc n f' fn' fi' adr' fd' ps' hf' r'
        refine ⟨r'.nd, fun sh shp npos ks k1 k2 => ?_⟩
        obtain ⟨gg, gV, q1, q2, q3⟩ := r'.sh sh shp npos ks k1 k2
        obtain ⟨_, _, _, _, _, _, F', _⟩ := r'.def_
        exact ⟨n, adr', fd', ps', gg, gV, ok, hr, r'.mg, F'.kp, q1, q2, q3⟩
      obtain ⟨t, t1, t2⟩ := trSL_ok (fu := fu) (C := ⟨N, fn.io, fis, blt, cons⟩) (fun s' x' hx => trS_ok (fu := fu) g S.kind 60 s' x' hx) hbody
      have v0 := t1 ⟨X.s_0, X.H_0, X.env, X.outer, X.ex, X.fn, X.pn, X.xe⟩ ⟨by rw [← hX]; rfl, fun z _ => by rw [← hX]; rfl, by rw [← hX]⟩
      have v1 : PSs X (L2.defBody st) t := v0
      refine ⟨t, by rw [← hX] at v1; exact v1.nox, ?_⟩
      rw [hXK] at t2
      -- the run
      simp only [run, hf, Option.bind_some] at h4
      unfold runFn at h4
      split at h4
      · next hl =>
        simp only [Option.bind_eq_some_iff] at h4
        obtain ⟨⟨fl, env'⟩, k1, k2⟩ := h4
        have lv : vs.length = fn.np := h1
        have len0 : (enter fn ds).length = (L2.start N vs).length := by
          unfold enter L2.start
          simp only [List.length_append, List.length_map, List.length_replicate, hl, lv, hN]
        have e0 : EnvRel K O H (L2.start N vs) (enter fn ds) := by
          refine ⟨len0, fun i dd hi nn => ?_, fun i xs hi => ?_, fun i j xs ys a z1 z2 z3 z4 => ?_, h2.ohp⟩
          · obtain ⟨v, q1, q2⟩ := h2.sh i dd (by rw [List.getElem?_map, pad_get hi]; rfl) nn
            exact ⟨v, pad_put (get_some q1), q2⟩
          · obtain ⟨a, ws, q1, q2⟩ := h2.ow i xs (by rw [List.getElem?_map, pad_get hi]; rfl)
            exact ⟨a, ws, pad_put (get_some q1), q2⟩
          · exact h2.ne i j xs ys a (by rw [List.getElem?_map, pad_get z1]; rfl) (by rw [List.getElem?_map, pad_get z2]; rfl) (by rw [List.getElem?_map, pad_get z3]; rfl) (by rw [List.getElem?_map, pad_get z4]; rfl)
        have eo0 : ∀ a, Eo (L2.start N vs) (enter fn ds) a → Eo (vs.map some) (ds.map some) a := fun a ⟨i, xs, z1, z2⟩ => ⟨i, xs, by rw [List.getElem?_map, pad_get z1]; rfl, by rw [List.getElem?_map, pad_get z2]; rfl⟩
        -- the end
        have fin : ∀ (O' : Addr → Prop) (H' : Hp) (σ' : Sl) (v : V), EnvRel K O' H' σ' env' → Step O H (L2.start N vs) (enter fn ds) O' H' σ' env' → (∀ j ∈ fn.io, σ'[j]? = (L2.start N vs)[j]?) → VRep K O' H' σ' env' v d → RFr H (L2.start N vs) (enter fn ds) v d → outs env' fn.io = some os → Q v H' := by
          intro O' H' σ' v e' s' hj hv hr' ho
          refine hq O' H' v ⟨s'.ext, fun a oa na => s'.frm a oa fun z => na (eo0 a z), s'.dom, e'.ohp, fun nn => hv.rep nn, fun xs hx => ?_, fun j k xs hjk hjs => ?_⟩
          · subst hx
            obtain ⟨a, ws, q1, q2, q3, q4, q5, q6⟩ := hv
            refine ⟨a, ws, q1, q2, ?_, q4, q5, q6⟩
            rcases hr' xs a rfl q1 with z | z
            · exact z
            · obtain ⟨i, ys, z1, z2⟩ := z
              have hi : i ∈ fn.io := h3 i ys (pad_get z1)
              obtain ⟨zs, hz⟩ := outs_mem ho i hi
              exact absurd ⟨i, zs, hz, (hj i hi).trans z2⟩ q3
          · have z := outs_get ho j k xs hjk hjs
            obtain ⟨a, ws, q1, q2⟩ := e'.ow k xs z
            have hk : k ∈ fn.io := List.mem_of_getElem? hjk
            rw [hj k hk] at q1
            exact ⟨a, ws, pad_get q1, q2⟩
        refine t2.run O (L2.start N vs) H (enter fn ds) fl env' _ e0 k1 fun O' H' σ' e' s' hj => ?_
        cases fl with
        | nx =>
          simp only [Option.map_eq_some_iff, Prod.mk.injEq] at k2
          obtain ⟨os', k3, rfl, rfl⟩ := k2
          exact fin O' H' σ' .non e' s' hj (.sh .non fun _ z => by cases z) (fun xs _ z _ => by cases z) k3
        | rt d' =>
          simp only [Option.map_eq_some_iff, Prod.mk.injEq] at k2
          obtain ⟨os', k3, rfl, rfl⟩ := k2
          exact fun v hv hr' => fin O' H' σ' v e' s' hj hv hr' k3
        | bk => cases k2
        | ct => cases k2
      · cases h4
end

theorem rol_of {K : Frag} {H : Hp} {a : Addr} {ns : List Int} (hO : L2.Only H) (hs : SqL K H a (ns.map V.int)) (hl : ns.length ≤ 63) : Rep K (fun _ => False) H (.ref a) (.rol (ns.map D.int)) := by
  have hz : (ns.map V.int).length ≤ sizeLine := by
    rw [List.length_map]
    exact Nat.le_trans hl (by decide)
  have r : Reps K (fun _ => False) H (ns.map V.int) (ns.map D.int) := by
    clear hs hz hl
    induction ns with
    | nil => exact .nil
    | cons n ns ih => exact .cons (.int n) ih
  refine .rol ?_ hz r
  rcases hs with (h | ⟨o, h⟩) | h
  · rcases hO a with z | ⟨o, xs, z⟩
    · rw [z] at h; cases h
    · rw [z] at h; cases h
  · exact .inl ⟨⟨o, h⟩, fun z => z⟩
  · exact .inr h
/-- the law's promise, from what the evaluator tells -/
theorem sp_law {K : Frag} {tab : Nat → Option Fn} {fu n f : Nat} {fn : Fn} {H : Hp} {a : Addr} {ns : List Int} {E : XK} (hnp : fn.np = 1) (hO : L2.Only H) (hs : SqL K H a (ns.map V.int)) (hl : ns.length ≤ 63)
    (h : run tab fu n f [.rol (ns.map D.int)] = some (.bl true, [])) : spF K (run tab fu n) f fn [.ref a] H (fun v _ => v = .bl true) E := by
  have rp := rol_of hO hs hl
  refine ⟨fun _ => False, [.rol (ns.map D.int)], .bl true, [], by rw [hnp]; rfl, ⟨rfl, fun i d hi nn => ?_, fun i xs hi => ?_, fun i j xs ys a z1 => ?_, fun a z => z.elim⟩, fun k xs hk => ?_, h, fun O' H' v rt => ?_⟩
  · cases i with
    | zero => simp at hi; subst hi; exact ⟨.ref a, rfl, rp⟩
    | succ i => simp at hi
  · cases i with
    | zero => simp at hi
    | succ i => simp at hi
  · cases i with
    | zero => simp at z1
    | succ i => simp at z1
  · cases k with
    | zero => simp at hk
    | succ i => simp at hk
  · exact Rep.bl_inv (rt.val fun _ z => by cases z)
end Pv

set_option Elab.async false
set_option linter.all false
set_option maxRecDepth 100000
set_option maxHeartbeats 4000000
/-! PvE: rows of a table, made. -/
namespace Pv
open PySem PySem.Spec
open L2 (V Hp Vals RelV)
def Sh1 (K : Frag) (fd : FuncData) (ps : List Str) (np : Nat) (shp : Shape) (p : Nat × List Str) : Prop := ∃ g gV, L2.KBn K fd ps p.1 p.2 g gV ∧ shp.ord.length = np ∧ ∀ vs zs : List V, vs.length = p.1 → zs.length = p.2.length → ArrV K (vs ++ zs) shp.ord (gV vs zs)
inductive ShOk (K : Frag) (fd : FuncData) (ps : List Str) (np : Nat) : List Shape → List (Nat × List Str) → Prop
  | nil : ShOk K fd ps np [] []
  | cons {s : Shape} {p : Nat × List Str} {ss : List Shape} {qs : List (Nat × List Str)} (h : Sh1 K fd ps np s p) (t : ShOk K fd ps np ss qs) : ShOk K fd ps np (s :: ss) (p :: qs)
theorem ShOk.get {K : Frag} {fd : FuncData} {ps : List Str} {np : Nat} : ∀ {ss : List Shape} {qs : List (Nat × List Str)}, ShOk K fd ps np ss qs → ∀ (i : Nat) (s : Shape) (p : Nat × List Str), ss[i]? = some s → qs[i]? = some p → Sh1 K fd ps np s p
  | _, _, .nil, i, s, p, h, _ => by simp at h
  | _, _, .cons h t, 0, s, p, h1, h2 => by simp at h1 h2; subst h1 h2; exact h
  | _, _, .cons h t, i + 1, s, p, h1, h2 => t.get i s p (by simpa using h1) (by simpa using h2)
section
variable {K : Frag} {mg : Str → Option Value} {tab : Nat → Option Fn} {fis : List FI} {blt : List Str} {cons : List (Str × D)}
theorem row_mk {fn : Fn} {fi : FI} {adr : Addr} {fd : FuncData} {ps N : List Str} {x qual : Str} {st : Stmt} {dvs : List V} {kws : List (Str × V)} (F : L2.FunD K x qual (L2.defArgs st) (L2.defBody st) (L2.defScope st) dvs kws adr fd) (S : L2.FnScope N ps (L2.defScope st))
    (tr : trSL (trS ⟨N, fn.io, fis, blt, cons⟩ tab 60 (L2.defScope st) (fun _ => true) 60) (L2.defBody st) = some fn.body) (hN : N.length = fn.slots) (np : ps.length = fn.np) (le : fn.np ≤ fn.slots) (io : ∀ k ∈ fn.io, k < fn.np) (nd : fn.io.Nodup)
    (hm : mg fi.name = some (.ref adr)) (sh : ShOk K fd ps fn.np fn.shapes fi.shapes) : RowAt K mg tab fis blt cons fn fi adr fd ps :=
  ⟨⟨x, qual, st, N, dvs, kws, F, S, tr, hN⟩, np, le, io, nd, hm, fun i s n ks h1 h2 => sh.get i s (n, ks) h1 h2⟩
def ids (n k : Nat) : List (Sum Nat D) := match n with
  | 0 => []
  | n + 1 => .inl k :: ids n (k + 1)
theorem arr_ids {all : List V} : ∀ (n k : Nat) (vs : List V), vs.length = n → (∀ i v, vs[i]? = some v → all[k + i]? = some v) → ArrV K all (ids n k) vs
  | 0, k, [], _, _ => .nil
  | n + 1, k, v :: vs, hl, h => .inl (by simpa using h 0 v rfl) (arr_ids n (k + 1) vs (by simpa using hl) fun i w hw => by
      have := h (i + 1) w (by simpa using hw)
      rw [← this]; congr 1; omega)
/-- every parameter is given by place -/
theorem sh_all {fd : FuncData} {ps : List Str} {np n : Nat} {shp : Shape} (h : ∀ us : List Value, us.length = n → bindArgs fd ⟨us, []⟩ = pure (ps.zip us)) (ho : shp.ord = ids n 0) (hn : n = np) : Sh1 K fd ps np shp (n, []) := by
  refine ⟨fun us _ => us, fun vs _ => vs, ⟨fun s us ws _ hl hw => ?_, fun r _ => r⟩, ?_, fun vs zs hl hz => ?_⟩
  · exact .of_eq (h us hl)
  · rw [ho, ← hn]
    have : ∀ n k, (ids n k).length = n := by
      intro n
      induction n with
      | zero => intro k; rfl
      | succ n ih => intro k; simp [ids, ih]
    exact this n 0
  · rw [ho]
    refine arr_ids n 0 vs hl fun i v hv => ?_
    rw [Nat.zero_add, List.getElem?_append_left (List.getElem?_eq_some_iff.mp hv).1]
    exact hv
inductive Dfl (K : Frag) : List V → List D → Prop
  | nil : Dfl K [] []
  | cons {v : V} {d : D} {vs : List V} {ds : List D} (h : ∀ O H, Rep K O H v d) (t : Dfl K vs ds) : Dfl K (v :: vs) (d :: ds)
theorem arr_app {all : List V} : ∀ (n k : Nat) (vs : List V) (ws : List V) (ds : List D), vs.length = n → (∀ i v, vs[i]? = some v → all[k + i]? = some v) → Dfl K ws ds → ArrV K all (ids n k ++ ds.map .inr) (vs ++ ws)
  | 0, k, [], ws, ds, _, _, hd => by
    induction hd with
    | nil => exact .nil
    | cons h t ih => exact .inr h ih
  | n + 1, k, v :: vs, ws, ds, hl, h, hd => .inl (by simpa using h 0 v rfl) (arr_app n (k + 1) vs ws ds (by simpa using hl) (fun i w hw => by
      have := h (i + 1) w (by simpa using hw)
      rw [← this]; congr 1; omega) hd)
/-- the first ones by place, the others by their defaults -/
theorem sh_dfl {x qual : Str} {params : Arguments} {body : List Stmt} {scope : Scope} {dvs : List V} {kws : List (Str × V)} {f : Addr} {fd : FuncData} {ps : List Str} {np : Nat} {shp : Shape} (F : L2.FunD K x qual params body scope dvs kws f fd) (n j : Nat) (hd : dvs ≠ []) (hn : n + (dvs.length - j) = ps.length)
    (h : ∀ (T : Addr) (kV doc pm : Value) (an : Option Addr) (cdv ct : Value) (us its : List Value), us.length = n → its.length = dvs.length →
      ∃ k, bindArgs (PySem.W.fnOf x qual params body scope (.ref T) kV doc pm an cdv ct) ⟨us, []⟩ = seqItems? (.ref T) >>= k ∧ k (some its.toArray) = pure (ps.zip (us ++ its.drop j)))
    {ds : List D} (ho : shp.ord = ids n 0 ++ ds.map .inr) (hr : Dfl K (dvs.drop j) ds) (hl0 : shp.ord.length = np := by rfl) : Sh1 K fd ps np shp (n, []) := by
  obtain ⟨us0, r0, b0⟩ := F.binds1 n j hd hn h
  refine ⟨fun us _ => us ++ us0, fun vs _ => vs ++ dvs.drop j, ⟨fun s us ws hk hl hw => b0 s us hk ?_, fun r _ => r.append r0⟩, hl0, fun vs zs hl hz => ?_⟩
  · have := r0.length
    rw [List.length_append, ← this, List.length_drop, hl, hn]
  · rw [ho]
    refine arr_app n 0 vs _ ds hl (fun i v hv => ?_) hr
    rw [Nat.zero_add, List.getElem?_append_left (List.getElem?_eq_some_iff.mp hv).1]
    exact hv
end
end Pv

set_option Elab.async false
set_option linter.all false
set_option maxRecDepth 100000
/-! PvS: what the evaluator gives, as rewriting. -/
namespace Pv
open PySem
section
variable {i j k : Int} {b c : Bool} {xs ys : List D} {x y z : D} {s : Str} {env : En} {n : Nat}

@[simp] theorem prim_add : prim .add [x, y] = pAdd x y := rfl
@[simp] theorem prim_sub : prim .sub [x, y] = pSub x y := rfl
@[simp] theorem prim_mul : prim .mul [x, y] = pMul x y := rfl
@[simp] theorem prim_fdiv : prim .fdiv [x, y] = pDiv x y := rfl
@[simp] theorem prim_mod : prim .mod [x, y] = pMod x y := rfl
@[simp] theorem prim_pow : prim .pow [x, y] = pPow x y := rfl
@[simp] theorem prim_eq : prim .eq [x, y] = (deq x y).map .bl := rfl
@[simp] theorem prim_ne : prim .ne [x, y] = (deq x y).map fun b => .bl (!b) := rfl
@[simp] theorem prim_lt : prim .lt [x, y] = pCmp (fun i j => decide (i < j)) x y := rfl
@[simp] theorem prim_le : prim .le [x, y] = pCmp (fun i j => decide (i ≤ j)) x y := rfl
@[simp] theorem prim_gt : prim .gt [x, y] = pCmp (fun i j => decide (j < i)) x y := rfl
@[simp] theorem prim_ge : prim .ge [x, y] = pCmp (fun i j => decide (j ≤ i)) x y := rfl
@[simp] theorem prim_isB : prim .isB [x, y] = pIsB false x y := rfl
@[simp] theorem prim_notB : prim .notB [x, y] = pIsB true x y := rfl
@[simp] theorem prim_inn : prim .inn [x, y] = pIn false x y := rfl
@[simp] theorem prim_nin : prim .nin [x, y] = pIn true x y := rfl
@[simp] theorem prim_idx : prim .idx [x, y] = pIdx x y := rfl
@[simp] theorem prim_max2 : prim .max2 [x, y] = pInt2 max2 x y := rfl
@[simp] theorem prim_min2 : prim .min2 [x, y] = pInt2 min2 x y := rfl
@[simp] theorem prim_neg : prim .neg [x] = pNeg x := rfl
@[simp] theorem prim_isN : prim .isN [x] = some (.bl (isNon x)) := rfl
@[simp] theorem prim_notN : prim .notN [x] = some (.bl (!isNon x)) := rfl
@[simp] theorem prim_len : prim .len [x] = pLen x := rfl
@[simp] theorem prim_absv : prim .absv [x] = pAbs x := rfl
@[simp] theorem prim_intv : prim .intv [x] = pInt x := rfl
@[simp] theorem prim_sum : prim .sum [x] = pSum x := rfl
@[simp] theorem prim_anyv : prim .anyv [x] = pAny x := rfl
@[simp] theorem prim_allv : prim .allv [x] = pAll x := rfl
@[simp] theorem prim_tupv : prim .tupv [x] = pTup x := rfl
@[simp] theorem prim_lstv : prim .lstv [x] = pLst x := rfl
@[simp] theorem pAdd_int : pAdd (.int i) (.int j) = some (.int (i + j)) := rfl
@[simp] theorem pAdd_lst : pAdd (.lst xs) (.lst ys) = if xs.length + ys.length ≤ LIM then some (.own (xs ++ ys)) else none := Eq.trans (Eq.refl _) (Eq.refl _)
@[simp] theorem pAdd_tup : pAdd (.tup xs) (.tup ys) = if xs.length + ys.length ≤ LIM then some (.tup (xs ++ ys)) else none := Eq.trans (Eq.refl _) (Eq.refl _)
@[simp] theorem pSub_int : pSub (.int i) (.int j) = some (.int (i - j)) := rfl
@[simp] theorem pMul_int : pMul (.int i) (.int j) = if mulOk i j then some (.int (i * j)) else none := rfl
@[simp] theorem pDiv_int : pDiv (.int i) (.int j) = if 0 < j ∧ j.natAbs.log2 < 9000 then some (.int (i / j)) else none := rfl
@[simp] theorem pMod_int : pMod (.int i) (.int j) = if 0 < j then some (.int (i % j)) else none := rfl
@[simp] theorem pPow_int : pPow (.int i) (.int j) = if 0 ≤ j ∧ j ≤ 1000000 ∧ i.natAbs < 2 ^ 64 then some (.int (i ^ j.toNat)) else none := rfl
@[simp] theorem pNeg_int : pNeg (.int i) = some (.int (-i)) := rfl
@[simp] theorem pCmp_int {p : Int → Int → Bool} : pCmp p (.int i) (.int j) = some (.bl (p i j)) := rfl
@[simp] theorem pIsB_f : pIsB false (.bl b) (.bl c) = some (.bl (decide (b = c))) := rfl
@[simp] theorem pIsB_t : pIsB true (.bl b) (.bl c) = some (.bl (!decide (b = c))) := rfl
@[simp] theorem pIdx_lst : pIdx (.lst xs) (.int i) = atI xs i := rfl
@[simp] theorem pIdx_rol : pIdx (.rol xs) (.int i) = atI xs i := rfl
@[simp] theorem pIdx_tup : pIdx (.tup xs) (.int i) = atI xs i := rfl
@[simp] theorem pLen_lst : pLen (.lst xs) = some (.int xs.length) := rfl
@[simp] theorem pLen_rol : pLen (.rol xs) = some (.int xs.length) := rfl
@[simp] theorem pLen_tup : pLen (.tup xs) = some (.int xs.length) := rfl
@[simp] theorem pLen_str : pLen (.str s) = some (.int s.length) := rfl
@[simp] theorem pInt2_int {f : Int → Int → Int} : pInt2 f (.int i) (.int j) = some (.int (f i j)) := rfl
@[simp] theorem pAbs_int : pAbs (.int i) = some (.int (if i < 0 then -i else i)) := rfl
@[simp] theorem pInt_int : pInt (.int i) = some (.int i) := rfl
@[simp] theorem pInt_bl : pInt (.bl b) = some (.int (if b then 1 else 0)) := rfl
@[simp] theorem pSum_lst : pSum (.lst xs) = (dInts xs).map fun is => .int is.sum := rfl
@[simp] theorem pAny_lst : pAny (.lst xs) = (dBools xs).map fun bs => .bl (bs.any id) := rfl
@[simp] theorem pAll_lst : pAll (.lst xs) = (dBools xs).map fun bs => .bl (bs.all id) := rfl
@[simp] theorem pTup_lst : pTup (.lst xs) = some (.tup xs) := rfl
@[simp] theorem pTup_tup : pTup (.tup xs) = some (.tup xs) := rfl
@[simp] theorem pLst_lst : pLst (.lst xs) = some (.own xs) := rfl
@[simp] theorem pLst_rol : pLst (.rol xs) = some (.own xs) := rfl
@[simp] theorem pLst_tup : pLst (.tup xs) = some (.own xs) := rfl
@[simp] theorem strip_own : strip (.own xs) = .lst xs := rfl
@[simp] theorem strip_lst : strip (.lst xs) = .lst xs := rfl
@[simp] theorem strip_rol : strip (.rol xs) = .rol xs := rfl
@[simp] theorem strip_tup : strip (.tup xs) = .tup xs := rfl
@[simp] theorem strip_int : strip (.int i) = .int i := rfl
@[simp] theorem strip_bl : strip (.bl b) = .bl b := rfl
@[simp] theorem strip_non : strip .non = .non := rfl
@[simp] theorem strip_str : strip (.str s) = .str s := rfl
@[simp] theorem isNon_non : isNon .non = true := rfl
@[simp] theorem isNon_int : isNon (.int i) = false := rfl
@[simp] theorem isNon_bl : isNon (.bl b) = false := rfl
@[simp] theorem isNon_tup : isNon (.tup xs) = false := rfl
@[simp] theorem isNon_lst : isNon (.lst xs) = false := rfl
@[simp] theorem isNon_str : isNon (.str s) = false := rfl
@[simp] theorem truth_non : truth .non = some false := rfl
@[simp] theorem truth_bl : truth (.bl b) = some b := rfl
@[simp] theorem truth_int : truth (.int i) = some (i != 0) := rfl
@[simp] theorem truth_tup : truth (.tup xs) = some (!xs.isEmpty) := rfl
@[simp] theorem truth_lst : truth (.lst xs) = some (!xs.isEmpty) := rfl
@[simp] theorem truth_own : truth (.own xs) = some (!xs.isEmpty) := rfl
@[simp] theorem bind1_name : bind1 (.name n) x env = some (env.set n (some x)) := rfl
@[simp] theorem bind1_tt {is : List Nat} : bind1 (.tup is) (.tup xs) env = setMany is xs env := rfl
@[simp] theorem bind1_tl {is : List Nat} : bind1 (.tup is) (.lst xs) env = setMany is xs env := rfl
@[simp] theorem bind1_to {is : List Nat} : bind1 (.tup is) (.own xs) env = setMany is xs env := rfl
@[simp] theorem part_nil : part [] = some none := rfl
@[simp] theorem part_int : part [.int i] = some (some i) := rfl
@[simp] theorem slice1_one {lo hi : Option Int} : slice1 [x] lo hi = sliceOf x lo hi := rfl
@[simp] theorem sliceOf_lst {lo hi : Option Int} : sliceOf (.lst xs) lo hi = some (.own (cut xs lo hi)) := rfl
@[simp] theorem sliceOf_rol {lo hi : Option Int} : sliceOf (.rol xs) lo hi = some (.own (cut xs lo hi)) := rfl
@[simp] theorem sliceOf_tup {lo hi : Option Int} : sliceOf (.tup xs) lo hi = some (.tup (cut xs lo hi)) := rfl
@[simp] theorem iter_lst : iter .seq [.lst xs] = some xs := rfl
@[simp] theorem iter_rol : iter .seq [.rol xs] = some xs := rfl
@[simp] theorem iter_tup : iter .seq [.tup xs] = some xs := rfl
@[simp] theorem iter_range1 : iter .range1 [.int j] = if -(2 ^ 62) ≤ j ∧ j < 2 ^ 62 ∧ j.toNat ≤ LIM then some (rangeL 0 j.toNat) else none := Eq.trans (Eq.refl _) (Eq.refl _)
@[simp] theorem iter_range2 : iter .range2 [.int i, .int j] = if -(2 ^ 62) ≤ i ∧ i < 2 ^ 62 ∧ -(2 ^ 62) ≤ j ∧ j < 2 ^ 62 ∧ (j - i).toNat ≤ LIM then some (rangeL i (j - i).toNat) else none := Eq.trans (Eq.refl _) (Eq.refl _)
@[simp] theorem iter_zipL : iter .zip [.lst xs, .lst ys] = some ((xs.zip ys).map fun p => .tup [p.1, p.2]) := rfl
@[simp] theorem iter_zipT : iter .zip [.tup xs, .tup ys] = some ((xs.zip ys).map fun p => .tup [p.1, p.2]) := rfl
@[simp] theorem iter_enum : iter .enum [.lst xs] = some (((List.range xs.length).zip xs).map fun (p : Nat × D) => D.tup [.int (p.1 : Int), p.2]) := rfl
@[simp] theorem isi_int_int : prim (.isi "int") [.int i] = some (.bl true) := by simp [prim, isiB, typ]
@[simp] theorem isi_int_bl : prim (.isi "int") [.bl b] = some (.bl true) := by simp [prim, isiB, typ]
@[simp] theorem isi_int_non : prim (.isi "int") [.non] = some (.bl false) := by simp [prim, isiB, typ]
@[simp] theorem isi_int_str : prim (.isi "int") [.str s] = some (.bl false) := by simp [prim, isiB, typ]
@[simp] theorem isi_int_tup : prim (.isi "int") [.tup xs] = some (.bl false) := by simp [prim, isiB, typ]
@[simp] theorem isi_int_lst : prim (.isi "int") [.lst xs] = some (.bl false) := by simp [prim, isiB, typ]
@[simp] theorem isi_int_rol : prim (.isi "int") [.rol xs] = some (.bl false) := by simp [prim, isiB, typ]
@[simp] theorem isi_bool_int : prim (.isi "bool") [.int i] = some (.bl false) := by simp [prim, isiB, typ]
@[simp] theorem isi_bool_bl : prim (.isi "bool") [.bl b] = some (.bl true) := by simp [prim, isiB, typ]
@[simp] theorem isi_bool_non : prim (.isi "bool") [.non] = some (.bl false) := by simp [prim, isiB, typ]
@[simp] theorem isi_bool_str : prim (.isi "bool") [.str s] = some (.bl false) := by simp [prim, isiB, typ]
@[simp] theorem isi_bool_tup : prim (.isi "bool") [.tup xs] = some (.bl false) := by simp [prim, isiB, typ]
@[simp] theorem isi_bool_lst : prim (.isi "bool") [.lst xs] = some (.bl false) := by simp [prim, isiB, typ]
@[simp] theorem isi_bool_rol : prim (.isi "bool") [.rol xs] = some (.bl false) := by simp [prim, isiB, typ]
@[simp] theorem isi_str_int : prim (.isi "str") [.int i] = some (.bl false) := by simp [prim, isiB, typ]
@[simp] theorem isi_str_bl : prim (.isi "str") [.bl b] = some (.bl false) := by simp [prim, isiB, typ]
@[simp] theorem isi_str_non : prim (.isi "str") [.non] = some (.bl false) := by simp [prim, isiB, typ]
@[simp] theorem isi_str_str : prim (.isi "str") [.str s] = some (.bl true) := by simp [prim, isiB, typ]
@[simp] theorem isi_str_tup : prim (.isi "str") [.tup xs] = some (.bl false) := by simp [prim, isiB, typ]
@[simp] theorem isi_str_lst : prim (.isi "str") [.lst xs] = some (.bl false) := by simp [prim, isiB, typ]
@[simp] theorem isi_str_rol : prim (.isi "str") [.rol xs] = some (.bl false) := by simp [prim, isiB, typ]
@[simp] theorem isi_tuple_int : prim (.isi "tuple") [.int i] = some (.bl false) := by simp [prim, isiB, typ]
@[simp] theorem isi_tuple_bl : prim (.isi "tuple") [.bl b] = some (.bl false) := by simp [prim, isiB, typ]
@[simp] theorem isi_tuple_non : prim (.isi "tuple") [.non] = some (.bl false) := by simp [prim, isiB, typ]
@[simp] theorem isi_tuple_str : prim (.isi "tuple") [.str s] = some (.bl false) := by simp [prim, isiB, typ]
@[simp] theorem isi_tuple_tup : prim (.isi "tuple") [.tup xs] = some (.bl true) := by simp [prim, isiB, typ]
@[simp] theorem isi_tuple_lst : prim (.isi "tuple") [.lst xs] = some (.bl false) := by simp [prim, isiB, typ]
@[simp] theorem isi_tuple_rol : prim (.isi "tuple") [.rol xs] = some (.bl false) := by simp [prim, isiB, typ]
@[simp] theorem isi_list_int : prim (.isi "list") [.int i] = some (.bl false) := by simp [prim, isiB, typ]
@[simp] theorem isi_list_bl : prim (.isi "list") [.bl b] = some (.bl false) := by simp [prim, isiB, typ]
@[simp] theorem isi_list_non : prim (.isi "list") [.non] = some (.bl false) := by simp [prim, isiB, typ]
@[simp] theorem isi_list_str : prim (.isi "list") [.str s] = some (.bl false) := by simp [prim, isiB, typ]
@[simp] theorem isi_list_tup : prim (.isi "list") [.tup xs] = some (.bl false) := by simp [prim, isiB, typ]
@[simp] theorem isi_list_lst : prim (.isi "list") [.lst xs] = some (.bl true) := by simp [prim, isiB, typ]
@[simp] theorem isi_list_rol : prim (.isi "list") [.rol xs] = some (.bl true) := by simp [prim, isiB, typ]
@[simp] theorem deq_int : deq (.int i) (.int j) = some (i == j) := by simp [deq, toPy, PyData.eqv]
@[simp] theorem deq_bl : deq (.bl b) (.bl c) = some (b == c) := by simp [deq, toPy, PyData.eqv]
@[simp] theorem deq_nn : deq .non .non = some true := by simp [deq, toPy, PyData.eqv]
@[simp] theorem deq_ni : deq .non (.int j) = some false := by simp [deq, toPy, PyData.eqv]
@[simp] theorem deq_in : deq (.int i) .non = some false := by simp [deq, toPy, PyData.eqv]
@[simp] theorem deq_str {t : Str} : deq (.str s) (.str t) = some (s == t) := by simp [deq, toPy, PyData.eqv]
theorem atI_nat {xs : List D} {k : Nat} : atI xs (k : Int) = xs[k]? := by
  unfold atI ixN
  rw [if_pos (by omega)]
  by_cases h : k < xs.length
  · rw [if_pos (by omega)]
    simp
  · rw [if_neg (by omega)]
    simp at h
    simp [h]
theorem run_succ (tab : Nat → Option Fn) (fu n f : Nat) (ds : List D) : run tab fu (n + 1) f ds = (tab f).bind fun fn => runFn tab (run tab fu n) fu fn ds := rfl
section
variable {tab : Nat → Option Fn} {R : Rn} {fu : Nat} {env : En}
/-- a loop's turn; a comprehension's; kept shut -/
def LB (tab : Nat → Option Fn) (R : Rn) (fu : Nat) (tg : Tg) (body : Sms) : D → En → Option (Pv.Flow × En) := fun d e => (bind1 tg d e).bind fun e1 => exes tab R fu body e1
def CB (tab : Nat → Option Fn) (R : Rn) (tg : Tg) (cond : Tt) (elt : Ex) : D → En → Option (Option D × En) := fun d e => (bind1 tg d e).bind fun e1 => (evT tab R cond e1).bind fun b => if b.1 then (ev tab R elt b.2).map fun v => (some (strip v.1), v.2) else some (none, b.2)
def WC (tab : Nat → Option Fn) (R : Rn) (c : Tt) : En → Option (Bool × En) := fun e => evT tab R c e
def WB (tab : Nat → Option Fn) (R : Rn) (fu : Nat) (body : Sms) : En → Option (Pv.Flow × En) := fun e => exes tab R fu body e
theorem e_var {i : Nat} : ev tab R (.var i) env = getF i env := by rw [ev]
theorem e_con {d : D} : ev tab R (.con d) env = some (d, env) := by rw [ev]
theorem e_op {o : Op} {es : Exs} : ev tab R (.op o es) env = (evo tab R es env).bind fun r => (Pv.settle r.2 r.1).bind fun ds => (prim o ds).map fun d => (d, r.2) := by rw [ev]
theorem e_slc {a lo hi : Exs} : ev tab R (.slc a lo hi) env = (evo tab R a env).bind fun r => (evs tab R lo r.2).bind fun l => (evs tab R hi l.2).bind fun h => (part l.1).bind fun p => (part h.1).bind fun q => (Pv.settle h.2 r.1).bind fun ds => (slice1 ds p q).map fun d => (d, h.2) := by rw [ev]
theorem e_tup {es : Exs} : ev tab R (.tup es) env = (evs tab R es env).map fun r => (.tup r.1, r.2) := by rw [ev]
theorem e_lst {es : Exs} : ev tab R (.lst es) env = (evs tab R es env).map fun r => (.own r.1, r.2) := by rw [ev]
theorem e_ite {c : Tt} {a b : Ex} : ev tab R (.ite c a b) env = (evT tab R c env).bind fun r => if r.1 then ev tab R a r.2 else ev tab R b r.2 := by rw [ev]
def andK (d : D) (e : En) (k : Option (D × En)) : Option (D × En) := match d with
  | .bl true => k
  | .bl false => some (.bl false, e)
  | _ => none
def orK (d : D) (e : En) (k : Option (D × En)) : Option (D × En) := match d with
  | .bl false => k
  | .bl true => some (.bl true, e)
  | _ => none
def notK (d : D) (e : En) : Option (D × En) := match d with
  | .bl b => some (.bl (!b), e)
  | _ => none
theorem andK_t {e : En} {k : Option (D × En)} : andK (.bl true) e k = k := rfl
theorem andK_f {e : En} {k : Option (D × En)} : andK (.bl false) e k = some (.bl false, e) := rfl
theorem orK_t {e : En} {k : Option (D × En)} : orK (.bl true) e k = some (.bl true, e) := rfl
theorem orK_f {e : En} {k : Option (D × En)} : orK (.bl false) e k = k := rfl
theorem notK_b {b : Bool} {e : En} : notK (.bl b) e = some (.bl (!b), e) := rfl
theorem e_and {a b : Ex} : ev tab R (.and a b) env = (ev tab R a env).bind fun r => andK r.1 r.2 (ev tab R b r.2) := by rw [ev]; rfl
theorem e_or {a b : Ex} : ev tab R (.or a b) env = (ev tab R a env).bind fun r => orK r.1 r.2 (ev tab R b r.2) := by rw [ev]; rfl
theorem e_not {a : Ex} : ev tab R (.not a) env = (ev tab R a env).bind fun r => notK r.1 r.2 := by rw [ev]; rfl
def chK2 (d : D) (e : En) : Option (D × En) := match d with
  | .bl b => some (.bl b, e)
  | _ => none
def chK (d : D) (e : En) (k : Option (D × En)) : Option (D × En) := match d with
  | .bl false => some (.bl false, e)
  | .bl true => k
  | _ => none
theorem chK_f {e : En} {k : Option (D × En)} : chK (.bl false) e k = some (.bl false, e) := rfl
theorem chK_t {e : En} {k : Option (D × En)} : chK (.bl true) e k = k := rfl
theorem chK2_b {b : Bool} {e : En} : chK2 (.bl b) e = some (.bl b, e) := rfl
theorem e_chain {o o2 : Op} {ab c : Exs} : ev tab R (.chain o o2 ab c) env = (evo tab R ab env).bind fun r => (Pv.settle r.2 r.1).bind fun ds => (prim o ds).bind fun d => chK d r.2 ((evo tab R c r.2).bind fun q => (Pv.settle q.2 (r.1.drop 1 ++ q.1)).bind fun es => (prim o2 es).bind fun d2 => chK2 d2 q.2) := by rw [ev]; rfl
theorem e_call {f sh : Nat} {es ks : Exs} : ev tab R (.call f sh es ks) env = (tab f).bind fun fn => (fn.shapes[sh]?).bind fun shp => (evc tab R es env).bind fun r => (evc tab R ks r.2).bind fun r2 => (arrange (r.1 ++ r2.1) shp.ord).bind fun as => (argsD r2.2 fn.io 0 as).bind fun ds => (lent as fn.io).bind fun ls => if ls.Nodup then (R f ds).bind fun q => (giveBack ls q.2 r2.2).map fun e => (q.1, e) else none := by rw [ev]
theorem e_comp {own : List Nat} {elt : Ex} {tg : Tg} {k : ItK} {es : Exs} {cond : Tt} : ev tab R (.comp own elt tg k es cond) env = (evs tab R es env).bind fun r => (iter k r.1).bind fun items => (compL own (CB tab R tg cond elt) items (unown own r.2)).map fun q => (.own q.1, restore own (unown own r.2) q.2) := by rw [ev]; rfl
theorem o_nil : evo tab R .nil env = some ([], env) := by rw [evo]
theorem o_var {i : Nat} {es : Exs} : evo tab R (.cons (.var i) es) env = (peek i env).bind fun _ => (evo tab R es env).map fun r => (.inl i :: r.1, r.2) := by rw [evo]
theorem o_con {d : D} {es : Exs} : evo tab R (.cons (.con d) es) env = (ev tab R (.con d) env).bind fun q => (evo tab R es q.2).map fun r => (.inr q.1 :: r.1, r.2) := by rw [evo]; intro i h; cases h
theorem c_con {d : D} {es : Exs} : evc tab R (.cons (.con d) es) env = (ev tab R (.con d) env).bind fun q => (evc tab R es q.2).map fun r => (.inr (strip q.1) :: r.1, r.2) := by rw [evc]; intro i h; cases h
theorem t_con {d : D} : evT tab R (.val (.con d)) env = (ev tab R (.con d) env).bind fun r => (truth r.1).map fun b => (b, r.2) := by rw [evT]; intro i h; cases h
theorem r_con {d : D} : exe tab R fu (.ret (.con d)) env = (ev tab R (.con d) env).map fun r => (.rt r.1, r.2) := by rw [exe]; intro i h; cases h
theorem o_op {o : Op} {es0 : Exs} {es : Exs} : evo tab R (.cons (.op o es0) es) env = (ev tab R (.op o es0) env).bind fun q => (evo tab R es q.2).map fun r => (.inr q.1 :: r.1, r.2) := by rw [evo]; intro i h; cases h
theorem c_op {o : Op} {es0 : Exs} {es : Exs} : evc tab R (.cons (.op o es0) es) env = (ev tab R (.op o es0) env).bind fun q => (evc tab R es q.2).map fun r => (.inr (strip q.1) :: r.1, r.2) := by rw [evc]; intro i h; cases h
theorem t_op {o : Op} {es0 : Exs} : evT tab R (.val (.op o es0)) env = (ev tab R (.op o es0) env).bind fun r => (truth r.1).map fun b => (b, r.2) := by rw [evT]; intro i h; cases h
theorem r_op {o : Op} {es0 : Exs} : exe tab R fu (.ret (.op o es0)) env = (ev tab R (.op o es0) env).map fun r => (.rt r.1, r.2) := by rw [exe]; intro i h; cases h
theorem o_slc {a lo hi : Exs} {es : Exs} : evo tab R (.cons (.slc a lo hi) es) env = (ev tab R (.slc a lo hi) env).bind fun q => (evo tab R es q.2).map fun r => (.inr q.1 :: r.1, r.2) := by rw [evo]; intro i h; cases h
theorem c_slc {a lo hi : Exs} {es : Exs} : evc tab R (.cons (.slc a lo hi) es) env = (ev tab R (.slc a lo hi) env).bind fun q => (evc tab R es q.2).map fun r => (.inr (strip q.1) :: r.1, r.2) := by rw [evc]; intro i h; cases h
theorem t_slc {a lo hi : Exs} : evT tab R (.val (.slc a lo hi)) env = (ev tab R (.slc a lo hi) env).bind fun r => (truth r.1).map fun b => (b, r.2) := by rw [evT]; intro i h; cases h
theorem r_slc {a lo hi : Exs} : exe tab R fu (.ret (.slc a lo hi)) env = (ev tab R (.slc a lo hi) env).map fun r => (.rt r.1, r.2) := by rw [exe]; intro i h; cases h
theorem o_tup {es0 : Exs} {es : Exs} : evo tab R (.cons (.tup es0) es) env = (ev tab R (.tup es0) env).bind fun q => (evo tab R es q.2).map fun r => (.inr q.1 :: r.1, r.2) := by rw [evo]; intro i h; cases h
theorem c_tup {es0 : Exs} {es : Exs} : evc tab R (.cons (.tup es0) es) env = (ev tab R (.tup es0) env).bind fun q => (evc tab R es q.2).map fun r => (.inr (strip q.1) :: r.1, r.2) := by rw [evc]; intro i h; cases h
theorem t_tup {es0 : Exs} : evT tab R (.val (.tup es0)) env = (ev tab R (.tup es0) env).bind fun r => (truth r.1).map fun b => (b, r.2) := by rw [evT]; intro i h; cases h
theorem r_tup {es0 : Exs} : exe tab R fu (.ret (.tup es0)) env = (ev tab R (.tup es0) env).map fun r => (.rt r.1, r.2) := by rw [exe]; intro i h; cases h
theorem o_lst {es0 : Exs} {es : Exs} : evo tab R (.cons (.lst es0) es) env = (ev tab R (.lst es0) env).bind fun q => (evo tab R es q.2).map fun r => (.inr q.1 :: r.1, r.2) := by rw [evo]; intro i h; cases h
theorem c_lst {es0 : Exs} {es : Exs} : evc tab R (.cons (.lst es0) es) env = (ev tab R (.lst es0) env).bind fun q => (evc tab R es q.2).map fun r => (.inr (strip q.1) :: r.1, r.2) := by rw [evc]; intro i h; cases h
theorem t_lst {es0 : Exs} : evT tab R (.val (.lst es0)) env = (ev tab R (.lst es0) env).bind fun r => (truth r.1).map fun b => (b, r.2) := by rw [evT]; intro i h; cases h
theorem r_lst {es0 : Exs} : exe tab R fu (.ret (.lst es0)) env = (ev tab R (.lst es0) env).map fun r => (.rt r.1, r.2) := by rw [exe]; intro i h; cases h
theorem o_ite {c : Tt} {a b : Ex} {es : Exs} : evo tab R (.cons (.ite c a b) es) env = (ev tab R (.ite c a b) env).bind fun q => (evo tab R es q.2).map fun r => (.inr q.1 :: r.1, r.2) := by rw [evo]; intro i h; cases h
theorem c_ite {c : Tt} {a b : Ex} {es : Exs} : evc tab R (.cons (.ite c a b) es) env = (ev tab R (.ite c a b) env).bind fun q => (evc tab R es q.2).map fun r => (.inr (strip q.1) :: r.1, r.2) := by rw [evc]; intro i h; cases h
theorem t_ite {c : Tt} {a b : Ex} : evT tab R (.val (.ite c a b)) env = (ev tab R (.ite c a b) env).bind fun r => (truth r.1).map fun b => (b, r.2) := by rw [evT]; intro i h; cases h
theorem r_ite {c : Tt} {a b : Ex} : exe tab R fu (.ret (.ite c a b)) env = (ev tab R (.ite c a b) env).map fun r => (.rt r.1, r.2) := by rw [exe]; intro i h; cases h
theorem o_and {a b : Ex} {es : Exs} : evo tab R (.cons (.and a b) es) env = (ev tab R (.and a b) env).bind fun q => (evo tab R es q.2).map fun r => (.inr q.1 :: r.1, r.2) := by rw [evo]; intro i h; cases h
theorem c_and {a b : Ex} {es : Exs} : evc tab R (.cons (.and a b) es) env = (ev tab R (.and a b) env).bind fun q => (evc tab R es q.2).map fun r => (.inr (strip q.1) :: r.1, r.2) := by rw [evc]; intro i h; cases h
theorem t_and {a b : Ex} : evT tab R (.val (.and a b)) env = (ev tab R (.and a b) env).bind fun r => (truth r.1).map fun b => (b, r.2) := by rw [evT]; intro i h; cases h
theorem r_and {a b : Ex} : exe tab R fu (.ret (.and a b)) env = (ev tab R (.and a b) env).map fun r => (.rt r.1, r.2) := by rw [exe]; intro i h; cases h
theorem o_or {a b : Ex} {es : Exs} : evo tab R (.cons (.or a b) es) env = (ev tab R (.or a b) env).bind fun q => (evo tab R es q.2).map fun r => (.inr q.1 :: r.1, r.2) := by rw [evo]; intro i h; cases h
theorem c_or {a b : Ex} {es : Exs} : evc tab R (.cons (.or a b) es) env = (ev tab R (.or a b) env).bind fun q => (evc tab R es q.2).map fun r => (.inr (strip q.1) :: r.1, r.2) := by rw [evc]; intro i h; cases h
theorem t_or {a b : Ex} : evT tab R (.val (.or a b)) env = (ev tab R (.or a b) env).bind fun r => (truth r.1).map fun b => (b, r.2) := by rw [evT]; intro i h; cases h
theorem r_or {a b : Ex} : exe tab R fu (.ret (.or a b)) env = (ev tab R (.or a b) env).map fun r => (.rt r.1, r.2) := by rw [exe]; intro i h; cases h
theorem o_not {a : Ex} {es : Exs} : evo tab R (.cons (.not a) es) env = (ev tab R (.not a) env).bind fun q => (evo tab R es q.2).map fun r => (.inr q.1 :: r.1, r.2) := by rw [evo]; intro i h; cases h
theorem c_not {a : Ex} {es : Exs} : evc tab R (.cons (.not a) es) env = (ev tab R (.not a) env).bind fun q => (evc tab R es q.2).map fun r => (.inr (strip q.1) :: r.1, r.2) := by rw [evc]; intro i h; cases h
theorem t_not {a : Ex} : evT tab R (.val (.not a)) env = (ev tab R (.not a) env).bind fun r => (truth r.1).map fun b => (b, r.2) := by rw [evT]; intro i h; cases h
theorem r_not {a : Ex} : exe tab R fu (.ret (.not a)) env = (ev tab R (.not a) env).map fun r => (.rt r.1, r.2) := by rw [exe]; intro i h; cases h
theorem o_chain {o o2 : Op} {ab c : Exs} {es : Exs} : evo tab R (.cons (.chain o o2 ab c) es) env = (ev tab R (.chain o o2 ab c) env).bind fun q => (evo tab R es q.2).map fun r => (.inr q.1 :: r.1, r.2) := by rw [evo]; intro i h; cases h
theorem c_chain {o o2 : Op} {ab c : Exs} {es : Exs} : evc tab R (.cons (.chain o o2 ab c) es) env = (ev tab R (.chain o o2 ab c) env).bind fun q => (evc tab R es q.2).map fun r => (.inr (strip q.1) :: r.1, r.2) := by rw [evc]; intro i h; cases h
theorem t_chain {o o2 : Op} {ab c : Exs} : evT tab R (.val (.chain o o2 ab c)) env = (ev tab R (.chain o o2 ab c) env).bind fun r => (truth r.1).map fun b => (b, r.2) := by rw [evT]; intro i h; cases h
theorem r_chain {o o2 : Op} {ab c : Exs} : exe tab R fu (.ret (.chain o o2 ab c)) env = (ev tab R (.chain o o2 ab c) env).map fun r => (.rt r.1, r.2) := by rw [exe]; intro i h; cases h
theorem o_call {f sh : Nat} {es0 ks : Exs} {es : Exs} : evo tab R (.cons (.call f sh es0 ks) es) env = (ev tab R (.call f sh es0 ks) env).bind fun q => (evo tab R es q.2).map fun r => (.inr q.1 :: r.1, r.2) := by rw [evo]; intro i h; cases h
theorem c_call {f sh : Nat} {es0 ks : Exs} {es : Exs} : evc tab R (.cons (.call f sh es0 ks) es) env = (ev tab R (.call f sh es0 ks) env).bind fun q => (evc tab R es q.2).map fun r => (.inr (strip q.1) :: r.1, r.2) := by rw [evc]; intro i h; cases h
theorem t_call {f sh : Nat} {es0 ks : Exs} : evT tab R (.val (.call f sh es0 ks)) env = (ev tab R (.call f sh es0 ks) env).bind fun r => (truth r.1).map fun b => (b, r.2) := by rw [evT]; intro i h; cases h
theorem r_call {f sh : Nat} {es0 ks : Exs} : exe tab R fu (.ret (.call f sh es0 ks)) env = (ev tab R (.call f sh es0 ks) env).map fun r => (.rt r.1, r.2) := by rw [exe]; intro i h; cases h
theorem o_comp {own : List Nat} {elt : Ex} {tg : Tg} {k : ItK} {es0 : Exs} {cond : Tt} {es : Exs} : evo tab R (.cons (.comp own elt tg k es0 cond) es) env = (ev tab R (.comp own elt tg k es0 cond) env).bind fun q => (evo tab R es q.2).map fun r => (.inr q.1 :: r.1, r.2) := by rw [evo]; intro i h; cases h
theorem c_comp {own : List Nat} {elt : Ex} {tg : Tg} {k : ItK} {es0 : Exs} {cond : Tt} {es : Exs} : evc tab R (.cons (.comp own elt tg k es0 cond) es) env = (ev tab R (.comp own elt tg k es0 cond) env).bind fun q => (evc tab R es q.2).map fun r => (.inr (strip q.1) :: r.1, r.2) := by rw [evc]; intro i h; cases h
theorem t_comp {own : List Nat} {elt : Ex} {tg : Tg} {k : ItK} {es0 : Exs} {cond : Tt} : evT tab R (.val (.comp own elt tg k es0 cond)) env = (ev tab R (.comp own elt tg k es0 cond) env).bind fun r => (truth r.1).map fun b => (b, r.2) := by rw [evT]; intro i h; cases h
theorem r_comp {own : List Nat} {elt : Ex} {tg : Tg} {k : ItK} {es0 : Exs} {cond : Tt} : exe tab R fu (.ret (.comp own elt tg k es0 cond)) env = (ev tab R (.comp own elt tg k es0 cond) env).map fun r => (.rt r.1, r.2) := by rw [exe]; intro i h; cases h
theorem c_nil : evc tab R .nil env = some ([], env) := by rw [evc]
theorem c_var {i : Nat} {es : Exs} : evc tab R (.cons (.var i) es) env = (getF i env).bind fun q => (evc tab R es q.2).map fun r => (.inr (strip q.1) :: r.1, r.2) := by rw [evc, e_var]; intro i h; cases h
theorem c_lend {i : Nat} {es : Exs} : evc tab R (.cons (.lend i) es) env = (peek i env).bind fun _ => (evc tab R es env).map fun r => (.inl i :: r.1, r.2) := by rw [evc]
theorem s_nil : evs tab R .nil env = some ([], env) := by rw [evs]
theorem s_cons {e : Ex} {es : Exs} : evs tab R (.cons e es) env = (ev tab R e env).bind fun q => (evs tab R es q.2).map fun r => (strip q.1 :: r.1, r.2) := by rw [evs]
theorem t_yes : evT tab R .yes env = some (true, env) := by rw [evT]
theorem t_nt {a : Tt} : evT tab R (.not a) env = (evT tab R a env).map fun r => (!r.1, r.2) := by rw [evT]
theorem t_ad {a b : Tt} : evT tab R (.and a b) env = (evT tab R a env).bind fun r => if r.1 then evT tab R b r.2 else some (false, r.2) := by rw [evT]
theorem t_ro {a b : Tt} : evT tab R (.or a b) env = (evT tab R a env).bind fun r => if r.1 then some (true, r.2) else evT tab R b r.2 := by rw [evT]
theorem t_var {i : Nat} : evT tab R (.val (.var i)) env = (peek i env).bind fun d => (truth d).map fun b => (b, env) := by rw [evT]
theorem x_asg {tg : Tg} {e : Ex} : exe tab R fu (.asg tg e) env = (ev tab R e env).bind fun r => (bind1 tg r.1 r.2).map fun e2 => (.nx, e2) := by rw [exe]
theorem x_par {is : List Nat} {es : Exs} : exe tab R fu (.par is es) env = (evs tab R es env).bind fun r => (setMany is r.1 r.2).map fun e2 => (.nx, e2) := by rw [exe]
def augK (x d : D) (e : En) (i : Nat) : Option (Pv.Flow × En) := match x, d with
  | .int _, .int z => some (.nx, e.set i (some (.int z)))
  | _, _ => none
theorem augK_i {x z : Int} {e : En} {i : Nat} : augK (.int x) (.int z) e i = some (.nx, e.set i (some (.int z))) := rfl
theorem x_aug {i : Nat} {o : Op} {e : Ex} : exe tab R fu (.aug i o e) env = (ev tab R e env).bind fun r => (peek i env).bind fun x => (prim o [x, r.1]).bind fun d => augK x d r.2 i := by rw [exe]; rfl
def putK (q v : D) (e : En) (i : Nat) : Option (Pv.Flow × En) := match q, e[i]? with
  | .int z, some (some (.own xs)) => (ixN xs.length z).map fun j => (.nx, e.set i (some (.own (xs.set j (strip v)))))
  | _, _ => none
theorem x_put {i : Nat} {k e : Ex} : exe tab R fu (.put i k e) env = (ev tab R e env).bind fun r => (peek i r.2).bind fun _ => (ev tab R k r.2).bind fun q => putK q.1 r.1 q.2 i := by rw [exe]; rfl
def appK (l : D) (k : Option (Pv.Flow × En)) : Option (Pv.Flow × En) := match l with
  | .lst _ => k
  | _ => none
def appK2 (v : D) (e : En) (i : Nat) : Option (Pv.Flow × En) := match e[i]? with
  | some (some (.own xs)) => if xs.length < LIM then some (.nx, e.set i (some (.own (xs ++ [strip v])))) else none
  | _ => none
theorem appK_l {xs : List D} {k : Option (Pv.Flow × En)} : appK (.lst xs) k = k := rfl
theorem x_app {i : Nat} {e : Ex} : exe tab R fu (.app i e) env = (peek i env).bind fun l => appK l ((ev tab R e env).bind fun r => appK2 r.1 r.2 i) := by rw [exe]; rfl
theorem x_expr {e : Ex} : exe tab R fu (.expr e) env = (ev tab R e env).map fun r => (.nx, r.2) := by rw [exe]
def retV (i : Nat) (env : En) : Option (Pv.Flow × En) := match env[i]? with
  | some (some d) => some (.rt d, env.set i none)
  | _ => none
theorem x_retv {i : Nat} : exe tab R fu (.ret (.var i)) env = retV i env := by rw [exe]; rfl
theorem x_retn : exe tab R fu .retn env = some (.rt .non, env) := by rw [exe]
theorem x_ite {c : Tt} {t e : Sms} : exe tab R fu (.ite c t e) env = (evT tab R c env).bind fun r => if r.1 then exes tab R fu t r.2 else exes tab R fu e r.2 := by rw [exe]
theorem x_loop {tg : Tg} {k : ItK} {es : Exs} {body : Sms} : exe tab R fu (.loop tg k es body) env = (evs tab R es env).bind fun r => (iter k r.1).bind fun items => forL (LB tab R fu tg body) items r.2 := by rw [exe]; rfl
theorem x_whl {c : Tt} {body : Sms} : exe tab R fu (.whl c body) env = whlL (WC tab R c) (WB tab R fu body) fu env := by rw [exe]; rfl
theorem x_pass : exe tab R fu .pass env = some (.nx, env) := by rw [exe]
theorem x_brk : exe tab R fu .brk env = some (.bk, env) := by rw [exe]
theorem x_cnt : exe tab R fu .cnt env = some (.ct, env) := by rw [exe]
theorem x_never : exe tab R fu .never env = none := by rw [exe]
def seqK (f : Pv.Flow) (e : En) (k : Option (Pv.Flow × En)) : Option (Pv.Flow × En) := match f with
  | .nx => k
  | f => some (f, e)
theorem seqK_nx {e : En} {k : Option (Pv.Flow × En)} : seqK .nx e k = k := rfl
theorem seqK_rt {d : D} {e : En} {k : Option (Pv.Flow × En)} : seqK (.rt d) e k = some (.rt d, e) := rfl
theorem seqK_bk {e : En} {k : Option (Pv.Flow × En)} : seqK .bk e k = some (.bk, e) := rfl
theorem seqK_ct {e : En} {k : Option (Pv.Flow × En)} : seqK .ct e k = some (.ct, e) := rfl
theorem xs_nil : exes tab R fu .nil env = some (.nx, env) := by rw [exes]
theorem xs_cons {s : Sm} {ss : Sms} : exes tab R fu (.cons s ss) env = (exe tab R fu s env).bind fun r => seqK r.1 r.2 (exes tab R fu ss r.2) := by
  rw [exes]
  congr 1
def endK (f : Pv.Flow) (e : En) (io : List Nat) : Option (D × List (List D)) := match f with
  | .rt d => (outs e io).map fun o => (d, o)
  | .nx => (outs e io).map fun o => (.non, o)
  | _ => none
theorem endK_rt {d : D} {e : En} {io : List Nat} : endK (.rt d) e io = (outs e io).map fun o => (d, o) := rfl
theorem endK_nx {e : En} {io : List Nat} : endK .nx e io = (outs e io).map fun o => (.non, o) := rfl
theorem run_fn {fn : Fn} {ds : List D} : runFn tab R fu fn ds = if ds.length = fn.np then (exes tab R fu fn.body (enter fn ds)).bind fun r => endK r.1 r.2 fn.io else none := by
  unfold runFn
  split
  · congr 1
  · rfl
theorem seq_nx {s : Sm} {ss : Sms} {e1 : En} (h : exe tab R fu s env = some (.nx, e1)) : exes tab R fu (.cons s ss) env = exes tab R fu ss e1 := by
  rw [xs_cons, h]; rfl
theorem seq_rt {s : Sm} {ss : Sms} {e1 : En} {d : D} (h : exe tab R fu s env = some (.rt d, e1)) : exes tab R fu (.cons s ss) env = some (.rt d, e1) := by
  rw [xs_cons, h]; rfl
theorem seq_bk {s : Sm} {ss : Sms} {e1 : En} (h : exe tab R fu s env = some (.bk, e1)) : exes tab R fu (.cons s ss) env = some (.bk, e1) := by
  rw [xs_cons, h]; rfl
theorem seq_ct {s : Sm} {ss : Sms} {e1 : En} (h : exe tab R fu s env = some (.ct, e1)) : exes tab R fu (.cons s ss) env = some (.ct, e1) := by
  rw [xs_cons, h]; rfl
theorem run_rt {fn : Fn} {ds : List D} {d : D} {e : En} {o : List (List D)} (h1 : ds.length = fn.np) (h2 : exes tab R fu fn.body (enter fn ds) = some (.rt d, e)) (h3 : outs e fn.io = some o) : runFn tab R fu fn ds = some (d, o) := by
  rw [run_fn, if_pos h1, h2]; simp [endK_rt, h3]
theorem run_nx {fn : Fn} {ds : List D} {e : En} {o : List (List D)} (h1 : ds.length = fn.np) (h2 : exes tab R fu fn.body (enter fn ds) = some (.nx, e)) (h3 : outs e fn.io = some o) : runFn tab R fu fn ds = some (.non, o) := by
  rw [run_fn, if_pos h1, h2]; simp [endK_nx, h3]
theorem loop_of {tg : Tg} {k : ItK} {es : Exs} {body : Sms} {xs items : List D} {e1 : En} (h1 : evs tab R es env = some (xs, e1)) (h2 : iter k xs = some items) : exe tab R fu (.loop tg k es body) env = forL (LB tab R fu tg body) items e1 := by
  rw [x_loop, h1]; simp [h2]
theorem asg_of {tg : Tg} {e : Ex} {d : D} {e1 e2 : En} (h1 : ev tab R e env = some (d, e1)) (h2 : bind1 tg d e1 = some e2) : exe tab R fu (.asg tg e) env = some (.nx, e2) := by
  rw [x_asg, h1]; simp [h2]
theorem LB_of {tg : Tg} {body : Sms} {d : D} {e1 : En} {r : Option (Pv.Flow × En)} (h : bind1 tg d env = some e1) (h2 : exes tab R fu body e1 = r) : LB tab R fu tg body d env = r := by
  unfold LB; rw [h]; exact h2
theorem comp_of {own : List Nat} {elt : Ex} {tg : Tg} {k : ItK} {es : Exs} {cond : Tt} {xs items ys : List D} {e1 e2 : En} (h1 : evs tab R es env = some (xs, e1)) (h2 : iter k xs = some items) (h3 : compL own (CB tab R tg cond elt) items (unown own e1) = some (ys, e2)) : ev tab R (.comp own elt tg k es cond) env = some (.own ys, restore own (unown own e1) e2) := by
  rw [e_comp, h1]; simp [h2, h3]
end
theorem forL_inv {f : D → En → Option (Pv.Flow × En)} (I : En → Prop) : ∀ (items : List D), (∀ d ∈ items, ∀ e, I e → ∃ e', f d e = some (.nx, e') ∧ I e') → ∀ e, I e → ∃ e', forL f items e = some (.nx, e') ∧ I e'
  | [], _, e, he => ⟨e, rfl, he⟩
  | d :: ds, h, e, he => by
    obtain ⟨e1, h1, h2⟩ := h d List.mem_cons_self e he
    obtain ⟨e2, h3, h4⟩ := forL_inv I ds (fun d' hd => h d' (List.mem_cons_of_mem _ hd)) e1 h2
    exact ⟨e2, by simp [forL, h1, h3], h4⟩
end
theorem forL_ind {α : Type} (g : α → D) {f : D → En → Option (Pv.Flow × En)} (I : List α → En → Prop) : ∀ (todo done : List α), (∀ a done e, I done e → a ∈ todo → ∃ e', f (g a) e = some (.nx, e') ∧ I (done ++ [a]) e') → ∀ e, I done e → ∃ e', forL f (todo.map g) e = some (.nx, e') ∧ I (done ++ todo) e'
  | [], done, _, e, he => ⟨e, rfl, by simpa using he⟩
  | a :: todo, done, h, e, he => by
    obtain ⟨e1, h1, h2⟩ := h a done e he List.mem_cons_self
    obtain ⟨e2, h3, h4⟩ := forL_ind g I todo (done ++ [a]) (fun a d e hi hm => h a d e hi (List.mem_cons_of_mem _ hm)) e1 h2
    exact ⟨e2, by simp [forL, h1, h3], by simpa using h4⟩
theorem forL_rg {f : D → En → Option (Pv.Flow × En)} (I : Nat → En → Prop) (lo : Int) : ∀ (n : Nat), (∀ k e, k < n → I k e → ∃ e', f (.int (lo + (k : Int))) e = some (.nx, e') ∧ I (k + 1) e') → ∀ e, I 0 e → ∃ e', forL f (rangeL lo n) e = some (.nx, e') ∧ I n e' := by
  intro n h e he
  suffices H : ∀ (m k : Nat) (e : En), k + m = n → I k e → ∃ e', forL f ((List.range' k m).map fun (k : Nat) => D.int (lo + (k : Int))) e = some (.nx, e') ∧ I n e' by
    have := H n 0 e (by omega) he
    rwa [rangeL, List.range_eq_range']
  intro m
  induction m with
  | zero =>
    intro k e hk he
    have hn : k = n := by omega
    exact ⟨e, rfl, by rw [← hn]; exact he⟩
  | succ m ih =>
    intro k e hk he
    obtain ⟨e1, h1, h2⟩ := h k e (by omega) he
    obtain ⟨e2, h3, h4⟩ := ih (k + 1) e1 (by omega) h2
    exact ⟨e2, by simp only [List.range'_succ, List.map_cons, forL, h1, Option.bind_some]; exact h3, h4⟩
theorem compL_ind {α : Type} (g : α → D) {own : List Nat} {f : D → En → Option (Option D × En)} {Q : D → Prop} (I : Nat → En → Prop) : ∀ (todo : List α) (j : Nat), (∀ a e j, I j e → a ∈ todo → ∃ v e', f (g a) (wipeE own e) = some (some v, e') ∧ Q v ∧ I (j + 1) e') → ∀ e, I j e → ∃ vs e', compL own f (todo.map g) e = some (vs, e') ∧ vs.length = todo.length ∧ (∀ v ∈ vs, Q v) ∧ I (j + todo.length) e'
  | [], j, _, e, he => ⟨[], e, rfl, rfl, by simp, by simpa using he⟩
  | a :: todo, j, h, e, he => by
    obtain ⟨v, e1, h1, hq, h2⟩ := h a e j he List.mem_cons_self
    obtain ⟨vs, e2, h3, hl, hv, h4⟩ := compL_ind g I todo (j + 1) (fun a e j hi hm => h a e j hi (List.mem_cons_of_mem _ hm)) e1 h2
    refine ⟨v :: vs, e2, by simp [compL, h1, h3], by simp [hl], fun x hx => ?_, ?_⟩
    · rcases List.mem_cons.1 hx with rfl | hx
      · exact hq
      · exact hv x hx
    · have : j + (a :: todo).length = j + 1 + todo.length := by simp; omega
      rw [this]; exact h4
theorem run_at {tab : Nat → Option Fn} {fu n f : Nat} {fn : Fn} {ds : List D} (h : tab f = some fn) : Pv.run tab fu (n + 1) f ds = runFn tab (Pv.run tab fu n) fu fn ds := by
  rw [run_succ, h, Option.bind_some]
end Pv

set_option Elab.async false
set_option linter.all false
set_option maxRecDepth 100000
/-! PvW: what comes of a run, by what is wanted of it. -/
namespace Pv
open PySem
def Som {α : Type} (o : Option α) (Q : α → Prop) : Prop := ∃ a, o = some a ∧ Q a
section
variable {α β : Type} {o : Option α} {Q : β → Prop}
theorem Som_some {a : α} {Q : α → Prop} : Som (some a) Q = Q a := by
  apply propext; constructor
  · rintro ⟨b, h, q⟩; cases h; exact q
  · intro q; exact ⟨a, rfl, q⟩
theorem Som_none {Q : α → Prop} : Som none Q = False := by
  apply propext; constructor
  · rintro ⟨b, h, q⟩; cases h
  · intro q; cases q
theorem Som_bind {f : α → Option β} : Som (o.bind f) Q = Som o fun a => Som (f a) Q := by
  cases o with
  | none => simp [Som_none]
  | some a => simp [Som_some]
theorem Som_map {f : α → β} : Som (o.map f) Q = Som o fun a => Q (f a) := by
  cases o with
  | none => simp [Som_none]
  | some a => simp [Som_some]
theorem Som_ite {c : Prop} [Decidable c] {a b : Option α} {Q : α → Prop} : Som (if c then a else b) Q = if c then Som a Q else Som b Q := by split <;> rfl
theorem Som.mono {o : Option α} {P Q : α → Prop} (h : Som o P) (k : ∀ a, P a → Q a) : Som o Q := let ⟨a, h1, h2⟩ := h; ⟨a, h1, k a h2⟩
theorem Som.eq {o : Option α} {a : α} (h : Som o fun b => b = a) : o = some a := by obtain ⟨b, h1, rfl⟩ := h; exact h1
theorem Som.of {o : Option α} {a : α} {Q : α → Prop} (h : o = some a) (q : Q a) : Som o Q := ⟨a, h, q⟩
end
section
variable {tab : Nat → Option Fn} {R : Rn} {fu : Nat} {env : En} {Q : Pv.Flow × En → Prop}
def seqB (tab : Nat → Option Fn) (R : Rn) (fu : Nat) (r : Pv.Flow × En) (ss : Sms) : Option (Pv.Flow × En) := seqK r.1 r.2 (exes tab R fu ss r.2)
theorem som_cons {s : Sm} {ss : Sms} (h : Som (exe tab R fu s env) fun r => Som (seqB tab R fu r ss) Q) : Som (exes tab R fu (.cons s ss) env) Q := by
  rw [xs_cons, Som_bind]; exact h
theorem som_nx {ss : Sms} (h : Som (exes tab R fu ss env) Q) : Som (seqB tab R fu (.nx, env) ss) Q := h
theorem som_nc {s : Sm} {ss : Sms} (h : Som (exe tab R fu s env) fun r => Som (seqB tab R fu r ss) Q) : Som (seqB tab R fu (.nx, env) (.cons s ss)) Q := som_nx (som_cons h)
theorem seqB_nil {r : Pv.Flow × En} : seqB tab R fu r .nil = some r := by
  obtain ⟨f, e⟩ := r
  cases f <;> simp [seqB, seqK, xs_nil]
theorem seqB_rt {d : D} {ss : Sms} : seqB tab R fu (.rt d, env) ss = some (.rt d, env) := rfl
theorem seqB_bk {ss : Sms} : seqB tab R fu (.bk, env) ss = some (.bk, env) := rfl
theorem seqB_ct {ss : Sms} : seqB tab R fu (.ct, env) ss = some (.ct, env) := rfl
/-- behind a loop's turn -/
def LQ (I : En → Prop) (Q : Pv.Flow × En → Prop) : Pv.Flow × En → Prop
  | (.nx, e) => I e
  | (.ct, e) => I e
  | (.bk, e) => Q (.nx, e)
  | (.rt v, e) => Q (.rt v, e)
theorem LQ_nx {I : En → Prop} {e : En} : LQ I Q (.nx, e) = I e := rfl
theorem LQ_ct {I : En → Prop} {e : En} : LQ I Q (.ct, e) = I e := rfl
theorem LQ_bk {I : En → Prop} {e : En} : LQ I Q (.bk, e) = Q (.nx, e) := rfl
theorem LQ_rt {I : En → Prop} {e : En} {v : D} : LQ I Q (.rt v, e) = Q (.rt v, e) := rfl
theorem som_for {α : Type} (g : α → D) {f : D → En → Option (Pv.Flow × En)} (I : List α → En → Prop) (xs : List α) (h0 : I [] env) (hs : ∀ pre x post e, xs = pre ++ x :: post → I pre e → Som (f (g x) e) (LQ (I (pre ++ [x])) Q)) (he : ∀ e, I xs e → Q (.nx, e)) :
    Som (forL f (xs.map g) env) Q := by
  suffices H : ∀ (todo done : List α) (e : En), xs = done ++ todo → I done e → Som (forL f (todo.map g) e) Q from H xs [] env rfl h0
  intro todo
  induction todo with
  | nil => intro done e hx hi; rw [List.append_nil] at hx; subst hx; simpa [forL, Som_some] using he e hi
  | cons a todo ih =>
    intro done e hx hi
    simp only [List.map_cons, forL, Som_bind]
    refine (hs done a todo e hx hi).mono fun r hr => ?_
    obtain ⟨fl, e1⟩ := r
    cases fl with
    | nx => exact ih (done ++ [a]) e1 (by simp [hx]) hr
    | ct => exact ih (done ++ [a]) e1 (by simp [hx]) hr
    | bk => simpa [Som_some, LQ_bk] using hr
    | rt v => simpa [Som_some, LQ_rt] using hr
theorem som_rng {f : D → En → Option (Pv.Flow × En)} {lo : Int} {n : Nat} (I : Nat → En → Prop) (h0 : I 0 env) (hs : ∀ k e, k < n → I k e → Som (f (.int (lo + k)) e) (LQ (I (k + 1)) Q)) (he : ∀ e, I n e → Q (.nx, e)) :
    Som (forL f (rangeL lo n) env) Q := by
  refine som_for (g := fun (k : Nat) => D.int (lo + (k : Int))) (fun pre e => I pre.length e) (List.range n) h0 (fun pre x post e hx hi => ?_) fun e hi => he e (by simpa using hi)
  have hl : pre.length < n := by have := congrArg List.length hx; simp at this; omega
  have hx2 : x = pre.length := by
    have h1 : (List.range n)[pre.length]? = some x := by rw [hx]; simp
    rw [List.getElem?_range hl] at h1
    exact (Option.some.inj h1).symm
  subst hx2
  have := hs pre.length e hl hi
  simpa using this
theorem som_whl {c : En → Option (Bool × En)} {f : En → Option (Pv.Flow × En)} (I : Nat → En → Prop) {n : Nat} (hn : n < fu) (h0 : I n env)
    (hs : ∀ m e, m ≤ n → I m e → Som (c e) fun r => if r.1 then Som (f r.2) (LQ (fun e' => ∃ k, k < m ∧ I k e') Q) else Q (.nx, r.2)) : Som (whlL c f fu env) Q := by
  suffices H : ∀ (k m : Nat) (e : En), m < k → m ≤ n → I m e → Som (whlL c f k e) Q from H fu n env hn (Nat.le_refl _) h0
  intro k
  induction k with
  | zero => intro m e hm; omega
  | succ k ih =>
    intro m e hm hmn hi
    simp only [whlL, Som_bind]
    refine (hs m e hmn hi).mono fun r hr => ?_
    obtain ⟨b, e1⟩ := r
    cases b with
    | false => simpa [Som_some] using hr
    | true =>
      simp only [if_true] at hr
      simp only [Som_bind]
      refine hr.mono fun r hr => ?_
      obtain ⟨fl, e2⟩ := r
      cases fl with
      | nx => obtain ⟨j, hj, hi⟩ := hr; exact ih j e2 (by omega) (by omega) hi
      | ct => obtain ⟨j, hj, hi⟩ := hr; exact ih j e2 (by omega) (by omega) hi
      | bk => simpa [Som_some, LQ_bk] using hr
      | rt v => simpa [Som_some, LQ_rt] using hr
theorem som_comp {α : Type} (g : α → D) {own : List Nat} {f : D → En → Option (Option D × En)} {Q : List D × En → Prop} (I : List α → List D → En → Prop) (xs : List α) (h0 : I [] [] env)
    (hs : ∀ pre x post acc e, xs = pre ++ x :: post → I pre acc e → Som (f (g x) (wipeE own e)) fun r => I (pre ++ [x]) (match r.1 with | some v => acc ++ [v] | none => acc) r.2) (he : ∀ acc e, I xs acc e → Q (acc, e)) : Som (compL own f (xs.map g) env) Q := by
  suffices H : ∀ (todo done : List α) (acc : List D) (e : En), xs = done ++ todo → I done acc e → Som (compL own f (todo.map g) e) fun q => Q (acc ++ q.1, q.2) by
    have := H xs [] [] env rfl h0
    simpa using this
  intro todo
  induction todo with
  | nil => intro done acc e hx hi; rw [List.append_nil] at hx; subst hx; simpa [compL, Som_some] using he acc e hi
  | cons a todo ih =>
    intro done acc e hx hi
    simp only [List.map_cons, compL, Som_bind, Som_map]
    refine (hs done a todo acc e hx hi).mono fun r hr => ?_
    obtain ⟨v, e1⟩ := r
    cases v with
    | none => exact (ih (done ++ [a]) acc e1 (by simp [hx]) hr).mono fun q hq => hq
    | some v => exact (ih (done ++ [a]) (acc ++ [v]) e1 (by simp [hx]) hr).mono fun q hq => by simpa using hq
theorem som_LB {tg : Tg} {body : Sms} {d : D} (h : Som (bind1 tg d env) fun e => Som (exes tab R fu body e) Q) : Som (LB tab R fu tg body d env) Q := by
  unfold LB; rw [Som_bind]; exact h
theorem som_CB {tg : Tg} {cond : Tt} {elt : Ex} {d : D} {Q : Option D × En → Prop} (h : Som (bind1 tg d env) fun e => Som (evT tab R cond e) fun b => if b.1 then Som (ev tab R elt b.2) fun v => Q (some (strip v.1), v.2) else Q (none, b.2)) : Som (CB tab R tg cond elt d env) Q := by
  unfold CB; rw [Som_bind]
  refine h.mono fun e h => ?_
  rw [Som_bind]
  refine h.mono fun b h => ?_
  split
  · next hb => rw [if_pos hb] at h; rw [Som_map]; exact h
  · next hb => rw [if_neg hb] at h; rw [Som_some]; exact h
/-- a def's run -/
theorem som_run {n f : Nat} {fn : Fn} {ds : List D} {Q : D × List (List D) → Prop} (hf : tab f = some fn) (hl : ds.length = fn.np) (h : Som (exes tab (Pv.run tab fu n) fu fn.body (enter fn ds)) fun r => Som (endK r.1 r.2 fn.io) Q) : Som (Pv.run tab fu (n + 1) f ds) Q := by
  rw [run_at hf, Pv.run_fn, if_pos hl, Som_bind]
  exact h
end
end Pv

set_option Elab.async false
set_option linter.all false
/-! PvX: places told as numbers -/
namespace Pv
open PySem
section
variable {xs : List D}
@[simp] theorem atI_0 : atI xs 0 = xs[0]? := atI_nat (k := 0)
@[simp] theorem atI_1 : atI xs 1 = xs[1]? := atI_nat (k := 1)
@[simp] theorem atI_2 : atI xs 2 = xs[2]? := atI_nat (k := 2)
@[simp] theorem atI_3 : atI xs 3 = xs[3]? := atI_nat (k := 3)
@[simp] theorem atI_4 : atI xs 4 = xs[4]? := atI_nat (k := 4)
@[simp] theorem atI_5 : atI xs 5 = xs[5]? := atI_nat (k := 5)
end
section
variable {tab : Nat → Option Fn} {R : Rn} {fu : Nat} {e : En}
theorem WC_is {c : Tt} : WC tab R c e = evT tab R c e := rfl
theorem WB_is {b : Sms} : WB tab R fu b e = exes tab R fu b e := rfl
theorem run_of {n f : Nat} {fn : Fn} {ds : List D} {d : D} {e : En} {o : List (List D)} (hf : tab f = some fn) (h1 : ds.length = fn.np) (h2 : exes tab (Pv.run tab fu n) fu fn.body (enter fn ds) = some (.rt d, e)) (h3 : outs e fn.io = some o) : Pv.run tab fu (n + 1) f ds = some (d, o) := by
  rw [run_at hf]; exact run_rt h1 h2 h3
end
end Pv

set_option Elab.async false
set_option linter.all false
set_option maxRecDepth 100000
set_option maxHeartbeats 4000000
namespace Law
open PySem Pv

abbrev F_is_whole : Nat := 0
abbrev F_is_count : Nat := 1
abbrev F_is_pair : Nat := 2
abbrev F_check_pair : Nat := 3
abbrev F_check_count : Nat := 4
abbrev F_led : Nat := 5
abbrev F_put_on : Nat := 6
abbrev F_then : Nat := 7
abbrev F_behind : Nat := 8
abbrev F_repeated : Nat := 9
abbrev F_times : Nat := 10
abbrev F__law_cell_at : Nat := 11
abbrev F__law_well : Nat := 12
abbrev F__law_draw : Nat := 13
abbrev F__law_one : Nat := 14
abbrev F__law_pair : Nat := 15
abbrev F__law_lead : Nat := 16
abbrev F__law_is_pair : Nat := 17
abbrev F__law_then : Nat := 18
abbrev F__law_times : Nat := 19
abbrev F__law_right : Nat := 20
abbrev F__law_stands : Nat := 21
abbrev F_law : Nat := 22
def b_is_whole : Sms :=
    (.cons (.ret (.and (.op (.isi "int") (.cons (.var 0) .nil)) (.not (.op (.isi "bool") (.cons (.var 0) .nil)))))
    .nil)
def fn_is_whole : Fn := { np := 1, slots := 1, io := [], shapes := [⟨[.inl 0]⟩], body := b_is_whole }
def b_is_count : Sms :=
    (.cons (.ret (.and (.call F_is_whole 0 (.cons (.var 0) .nil) .nil) (.op .ge (.cons (.var 0) (.cons (.var 1) .nil)))))
    .nil)
def fn_is_count : Fn := { np := 2, slots := 2, io := [], shapes := [⟨[.inl 0, .inr (.int 0)]⟩, ⟨[.inl 0, .inl 1]⟩], body := b_is_count }
def b_is_pair : Sms :=
    (.cons (.ite (.or (.not (.val (.op (.isi "tuple") (.cons (.var 0) .nil)))) (.or (.val (.op .ne (.cons (.op .len (.cons (.var 0) .nil)) (.cons (.con (.int 2)) .nil)))) (.not (.val (.call F_is_count 0 (.cons (.op .idx (.cons (.var 0) (.cons (.con (.int 0)) .nil))) .nil) .nil)))))
    (.cons (.ret (.con (.bl false)))
    .nil)
    .nil)
    (.cons (.ret (.or (.op .isN (.cons (.op .idx (.cons (.var 0) (.cons (.con (.int 1)) .nil))) .nil)) (.and (.call F_is_whole 0 (.cons (.op .idx (.cons (.var 0) (.cons (.con (.int 1)) .nil))) .nil) .nil) (.op .le (.cons (.op .idx (.cons (.var 0) (.cons (.con (.int 1)) .nil))) (.cons (.op .idx (.cons (.var 0) (.cons (.con (.int 0)) .nil))) .nil))))))
    .nil))
def fn_is_pair : Fn := { np := 1, slots := 1, io := [], shapes := [⟨[.inl 0]⟩], body := b_is_pair }
def b_check_pair : Sms :=
    (.cons (.ite (.not (.val (.call F_is_pair 0 (.cons (.var 0) .nil) .nil)))
    (.cons .never
    .nil)
    .nil)
    .nil)
def fn_check_pair : Fn := { np := 1, slots := 1, io := [], shapes := [⟨[.inl 0]⟩], body := b_check_pair }
def b_check_count : Sms :=
    (.cons (.ite (.not (.val (.call F_is_count 1 (.cons (.var 0) (.cons (.var 1) .nil)) .nil)))
    (.cons .never
    .nil)
    .nil)
    .nil)
def fn_check_count : Fn := { np := 2, slots := 2, io := [], shapes := [⟨[.inl 0, .inr (.int 0)]⟩], body := b_check_count }
def b_led : Sms :=
    (.cons (.asg (.tup [2, 3]) (.var 0))
    (.cons (.ret (.ite (.val (.op .isN (.cons (.var 3) .nil))) (.var 2) (.op .max2 (.cons (.var 2) (.cons (.op .add (.cons (.var 1) (.cons (.var 3) .nil))) .nil)))))
    .nil))
def fn_led : Fn := { np := 2, slots := 4, io := [], shapes := [⟨[.inl 0, .inl 1]⟩], body := b_led }
def b_put_on : Sms :=
    (.cons (.expr (.call F_check_pair 0 (.cons (.var 0) .nil) .nil))
    (.cons (.expr (.call F_check_count 0 (.cons (.var 1) .nil) .nil))
    (.cons (.ret (.call F_led 0 (.cons (.var 0) (.cons (.var 1) .nil)) .nil))
    .nil)))
def fn_put_on : Fn := { np := 2, slots := 2, io := [], shapes := [⟨[.inl 0, .inl 1]⟩], body := b_put_on }
def b_then : Sms :=
    (.cons (.asg (.name 2) (.ite (.or (.val (.op .isN (.cons (.op .idx (.cons (.var 0) (.cons (.con (.int 1)) .nil))) .nil))) (.val (.op .isN (.cons (.op .idx (.cons (.var 1) (.cons (.con (.int 1)) .nil))) .nil)))) (.con .non) (.op .add (.cons (.op .idx (.cons (.var 0) (.cons (.con (.int 1)) .nil))) (.cons (.op .idx (.cons (.var 1) (.cons (.con (.int 1)) .nil))) .nil)))))
    (.cons (.ret (.tup (.cons (.call F_led 0 (.cons (.var 1) (.cons (.op .idx (.cons (.var 0) (.cons (.con (.int 0)) .nil))) .nil)) .nil) (.cons (.var 2) .nil))))
    .nil))
def fn_then : Fn := { np := 2, slots := 3, io := [], shapes := [⟨[.inl 0, .inl 1]⟩], body := b_then }
def b_behind : Sms :=
    (.cons (.expr (.call F_check_pair 0 (.cons (.var 0) .nil) .nil))
    (.cons (.expr (.call F_check_pair 0 (.cons (.var 1) .nil) .nil))
    (.cons (.ret (.call F_then 0 (.cons (.var 0) (.cons (.var 1) .nil)) .nil))
    .nil)))
def fn_behind : Fn := { np := 2, slots := 2, io := [], shapes := [⟨[.inl 0, .inl 1]⟩], body := b_behind }
def b_repeated : Sms :=
    (.cons (.asg (.tup [2, 3]) (.var 0))
    (.cons (.ite (.val (.op .eq (.cons (.var 1) (.cons (.con (.int 0)) .nil))))
    (.cons (.ret (.tup (.cons (.con (.int 0)) (.cons (.con (.int 0)) .nil))))
    .nil)
    .nil)
    (.cons (.ret (.ite (.val (.op .isN (.cons (.var 3) .nil))) (.var 0) (.tup (.cons (.op .add (.cons (.var 2) (.cons (.op .mul (.cons (.op .sub (.cons (.var 1) (.cons (.con (.int 1)) .nil))) (.cons (.op .max2 (.cons (.con (.int 0)) (.cons (.var 3) .nil))) .nil))) .nil))) (.cons (.op .mul (.cons (.var 1) (.cons (.var 3) .nil))) .nil)))))
    .nil)))
def fn_repeated : Fn := { np := 2, slots := 4, io := [], shapes := [⟨[.inl 0, .inl 1]⟩], body := b_repeated }
def b_times : Sms :=
    (.cons (.expr (.call F_check_pair 0 (.cons (.var 0) .nil) .nil))
    (.cons (.expr (.call F_check_count 0 (.cons (.var 1) .nil) .nil))
    (.cons (.ret (.call F_repeated 0 (.cons (.var 0) (.cons (.var 1) .nil)) .nil))
    .nil)))
def fn_times : Fn := { np := 2, slots := 2, io := [], shapes := [⟨[.inl 0, .inl 1]⟩], body := b_times }
def b__law_cell_at : Sms :=
    (.cons (.ite (.val (.op .lt (.cons (.var 1) (.cons (.op .len (.cons (.var 0) .nil)) .nil))))
    (.cons (.ret (.op .idx (.cons (.var 0) (.cons (.var 1) .nil))))
    .nil)
    .nil)
    (.cons (.ret (.con (.int 0)))
    .nil))
def fn__law_cell_at : Fn := { np := 2, slots := 2, io := [], shapes := [⟨[.inl 0, .inl 1]⟩], body := b__law_cell_at }
def b__law_well : Sms :=
    (.cons (.ret (.lst (.cons (.op .idx (.cons (.lst (.cons (.con (.int 0)) (.cons (.var 0) .nil))) (.cons (.op .intv (.cons (.op .ge (.cons (.var 0) (.cons (.op .pow (.cons (.con (.int 10)) (.cons (.con (.int 18)) .nil))) .nil))) .nil)) .nil))) (.cons (.op .mod (.cons (.op .intv (.cons (.var 0) .nil)) (.cons (.con (.int 2147483629)) .nil))) (.cons (.con (.int 0)) .nil)))))
    .nil)
def fn__law_well : Fn := { np := 1, slots := 1, io := [], shapes := [⟨[.inl 0]⟩], body := b__law_well }
def b__law_draw : Sms :=
    (.cons (.ite (.val (.op .gt (.cons (.op .idx (.cons (.var 0) (.cons (.con (.int 0)) .nil))) (.cons (.con (.int 0)) .nil))))
    (.cons (.asg (.name 2) (.op .mod (.cons (.op .intv (.cons (.op .idx (.cons (.var 0) (.cons (.con (.int 0)) .nil))) .nil)) (.cons (.var 1) .nil))))
    (.cons (.put 0 (.con (.int 0)) (.op .fdiv (.cons (.op .idx (.cons (.var 0) (.cons (.con (.int 0)) .nil))) (.cons (.var 1) .nil))))
    (.cons (.ret (.var 2))
    .nil)))
    .nil)
    (.cons (.put 0 (.con (.int 2)) (.op .add (.cons (.op .idx (.cons (.var 0) (.cons (.con (.int 2)) .nil))) (.cons (.con (.int 1)) .nil))))
    (.cons (.asg (.name 3) (.op .mod (.cons (.op .intv (.cons (.op .pow (.cons (.op .add (.cons (.op .add (.cons (.op .idx (.cons (.var 0) (.cons (.con (.int 1)) .nil))) (.cons (.op .mul (.cons (.con (.int 7919)) (.cons (.op .idx (.cons (.var 0) (.cons (.con (.int 2)) .nil))) .nil))) .nil))) (.cons (.con (.int 1)) .nil))) (.cons (.con (.int 5)) .nil))) .nil)) (.cons (.con (.int 2147483647)) .nil))))
    (.cons (.asg (.name 3) (.op .mod (.cons (.op .intv (.cons (.op .mul (.cons (.var 3) (.cons (.op .add (.cons (.op .add (.cons (.op .fdiv (.cons (.var 3) (.cons (.con (.int 1009)) .nil))) (.cons (.con (.int 69621)) .nil))) (.cons (.op .idx (.cons (.var 0) (.cons (.con (.int 2)) .nil))) .nil))) .nil))) .nil)) (.cons (.con (.int 2147483629)) .nil))))
    (.cons (.ret (.op .mod (.cons (.op .intv (.cons (.op .mod (.cons (.op .intv (.cons (.op .mul (.cons (.var 3) (.cons (.op .add (.cons (.op .fdiv (.cons (.var 3) (.cons (.con (.int 2003)) .nil))) (.cons (.con (.int 40692)) .nil))) .nil))) .nil)) (.cons (.con (.int 2147483399)) .nil))) .nil)) (.cons (.var 1) .nil))))
    .nil)))))
def fn__law_draw : Fn := { np := 2, slots := 4, io := [0], shapes := [⟨[.inl 0, .inl 1]⟩], body := b__law_draw }
def b__law_one : Sms :=
    (.cons (.ret (.op .idx (.cons (.var 1) (.cons (.call F__law_draw 0 (.cons (.lend 0) (.cons (.op .len (.cons (.var 1) .nil)) .nil)) .nil) .nil))))
    .nil)
def fn__law_one : Fn := { np := 2, slots := 2, io := [0], shapes := [⟨[.inl 0, .inl 1]⟩], body := b__law_one }
def b__law_pair : Sms :=
    (.cons (.asg (.name 2) (.call F__law_draw 0 (.cons (.lend 0) (.cons (.op .add (.cons (.var 1) (.cons (.con (.int 1)) .nil))) .nil)) .nil))
    (.cons (.ret (.tup (.cons (.var 2) (.cons (.op .idx (.cons (.lst (.cons (.con .non) (.cons (.var 2) (.cons (.op .sub (.cons (.con (.int 0)) (.cons (.call F__law_draw 0 (.cons (.lend 0) (.cons (.op .add (.cons (.var 1) (.cons (.con (.int 1)) .nil))) .nil)) .nil) .nil))) (.cons (.op .sub (.cons (.var 2) (.cons (.call F__law_draw 0 (.cons (.lend 0) (.cons (.op .add (.cons (.var 1) (.cons (.con (.int 1)) .nil))) .nil)) .nil) .nil))) .nil))))) (.cons (.call F__law_draw 0 (.cons (.lend 0) (.cons (.con (.int 4)) .nil)) .nil) .nil))) .nil))))
    .nil))
def fn__law_pair : Fn := { np := 2, slots := 3, io := [0], shapes := [⟨[.inl 0, .inl 1]⟩], body := b__law_pair }
def b__law_lead : Sms :=
    (.cons (.ite (.val (.op .isN (.cons (.op .idx (.cons (.var 0) (.cons (.con (.int 1)) .nil))) .nil)))
    (.cons (.ret (.op .idx (.cons (.var 0) (.cons (.con (.int 0)) .nil))))
    .nil)
    .nil)
    (.cons (.ret (.op .max2 (.cons (.op .idx (.cons (.var 0) (.cons (.con (.int 0)) .nil))) (.cons (.op .add (.cons (.var 1) (.cons (.op .idx (.cons (.var 0) (.cons (.con (.int 1)) .nil))) .nil))) .nil))))
    .nil))
def fn__law_lead : Fn := { np := 2, slots := 2, io := [], shapes := [⟨[.inl 0, .inl 1]⟩], body := b__law_lead }
def b__law_is_pair : Sms :=
    (.cons (.ite (.or (.not (.val (.op (.isi "tuple") (.cons (.var 0) .nil)))) (.val (.op .ne (.cons (.op .len (.cons (.var 0) .nil)) (.cons (.con (.int 2)) .nil)))))
    (.cons (.ret (.con (.bl false)))
    .nil)
    .nil)
    (.cons (.loop (.name 1) .seq (.cons (.var 0) .nil)
    (.cons (.ite (.and (.val (.op .notN (.cons (.var 1) .nil))) (.or (.not (.val (.op (.isi "int") (.cons (.var 1) .nil)))) (.val (.op (.isi "bool") (.cons (.var 1) .nil)))))
    (.cons (.ret (.con (.bl false)))
    .nil)
    .nil)
    .nil))
    (.cons (.ret (.and (.op .notN (.cons (.op .idx (.cons (.var 0) (.cons (.con (.int 0)) .nil))) .nil)) (.and (.op .ge (.cons (.op .idx (.cons (.var 0) (.cons (.con (.int 0)) .nil))) (.cons (.con (.int 0)) .nil))) (.or (.op .isN (.cons (.op .idx (.cons (.var 0) (.cons (.con (.int 1)) .nil))) .nil)) (.op .le (.cons (.op .idx (.cons (.var 0) (.cons (.con (.int 1)) .nil))) (.cons (.op .idx (.cons (.var 0) (.cons (.con (.int 0)) .nil))) .nil)))))))
    .nil)))
def fn__law_is_pair : Fn := { np := 1, slots := 2, io := [], shapes := [⟨[.inl 0]⟩], body := b__law_is_pair }
def b__law_then : Sms :=
    (.cons (.asg (.name 2) (.con .non))
    (.cons (.ite (.and (.val (.op .notN (.cons (.op .idx (.cons (.var 0) (.cons (.con (.int 1)) .nil))) .nil))) (.val (.op .notN (.cons (.op .idx (.cons (.var 1) (.cons (.con (.int 1)) .nil))) .nil))))
    (.cons (.asg (.name 2) (.op .add (.cons (.op .idx (.cons (.var 0) (.cons (.con (.int 1)) .nil))) (.cons (.op .idx (.cons (.var 1) (.cons (.con (.int 1)) .nil))) .nil))))
    .nil)
    .nil)
    (.cons (.ret (.tup (.cons (.call F__law_lead 0 (.cons (.var 1) (.cons (.op .idx (.cons (.var 0) (.cons (.con (.int 0)) .nil))) .nil)) .nil) (.cons (.var 2) .nil))))
    .nil)))
def fn__law_then : Fn := { np := 2, slots := 3, io := [], shapes := [⟨[.inl 0, .inl 1]⟩], body := b__law_then }
def b__law_times : Sms :=
    (.cons (.asg (.name 2) (.tup (.cons (.con (.int 0)) (.cons (.con (.int 0)) .nil))))
    (.cons (.asg (.name 3) (.var 0))
    (.cons (.whl (.val (.op .gt (.cons (.var 1) (.cons (.con (.int 0)) .nil))))
    (.cons (.ite (.val (.op .eq (.cons (.op .mod (.cons (.op .intv (.cons (.var 1) .nil)) (.cons (.con (.int 2)) .nil))) (.cons (.con (.int 1)) .nil))))
    (.cons (.asg (.name 2) (.call F__law_then 0 (.cons (.var 2) (.cons (.var 3) .nil)) .nil))
    .nil)
    .nil)
    (.cons (.asg (.name 3) (.call F__law_then 0 (.cons (.var 3) (.cons (.var 3) .nil)) .nil))
    (.cons (.asg (.name 1) (.op .fdiv (.cons (.var 1) (.cons (.con (.int 2)) .nil))))
    .nil))))
    (.cons (.ret (.var 2))
    .nil))))
def fn__law_times : Fn := { np := 2, slots := 4, io := [], shapes := [⟨[.inl 0, .inl 1]⟩], body := b__law_times }
def b__law_right : Sms :=
    (.cons (.asg (.name 4) (.call F_times 0 (.cons (.var 0) (.cons (.var 1) .nil)) .nil))
    (.cons (.ite (.or (.not (.val (.call F__law_is_pair 0 (.cons (.var 4) .nil) .nil))) (.val (.op .ne (.cons (.var 4) (.cons (.call F__law_times 0 (.cons (.var 0) (.cons (.var 1) .nil)) .nil) .nil)))))
    (.cons (.ret (.con (.bl false)))
    .nil)
    .nil)
    (.cons (.ite (.val (.op .ne (.cons (.call F_times 0 (.cons (.var 0) (.cons (.op .add (.cons (.var 1) (.cons (.var 2) .nil))) .nil)) .nil) (.cons (.call F_behind 0 (.cons (.var 4) (.cons (.call F_times 0 (.cons (.var 0) (.cons (.var 2) .nil)) .nil) .nil)) .nil) .nil))))
    (.cons (.ret (.con (.bl false)))
    .nil)
    .nil)
    (.cons (.ite (.val (.op .ne (.cons (.call F_times 0 (.cons (.var 4) (.cons (.var 2) .nil)) .nil) (.cons (.call F_times 0 (.cons (.var 0) (.cons (.op .mul (.cons (.var 1) (.cons (.var 2) .nil))) .nil)) .nil) .nil))))
    (.cons (.ret (.con (.bl false)))
    .nil)
    .nil)
    (.cons (.asg (.name 5) (.var 3))
    (.cons (.loop (.name 6) .range1 (.cons (.con (.int 7)) .nil)
    (.cons (.ite (.val (.op .ne (.cons (.call F_put_on 0 (.cons (.call F_times 0 (.cons (.var 0) (.cons (.var 6) .nil)) .nil) (.cons (.var 3) .nil)) .nil) (.cons (.var 5) .nil))))
    (.cons (.ret (.con (.bl false)))
    .nil)
    .nil)
    (.cons (.asg (.name 5) (.call F__law_lead 0 (.cons (.var 0) (.cons (.var 5) .nil)) .nil))
    .nil)))
    (.cons (.ret (.con (.bl true)))
    .nil)))))))
def fn__law_right : Fn := { np := 4, slots := 7, io := [], shapes := [⟨[.inl 0, .inl 1, .inl 2, .inl 3]⟩], body := b__law_right }
def b__law_stands : Sms :=
    (.cons (.asg (.name 3) (.call F_put_on 0 (.cons (.call F_times 0 (.cons (.var 0) (.cons (.var 2) .nil)) .nil) (.cons (.var 1) .nil)) .nil))
    (.cons (.asg (.name 4) (.call F_put_on 0 (.cons (.call F_times 0 (.cons (.var 0) (.cons (.op .add (.cons (.var 2) (.cons (.con (.int 1)) .nil))) .nil)) .nil) (.cons (.var 1) .nil)) .nil))
    (.cons (.ite (.and (.val (.op .notN (.cons (.op .idx (.cons (.var 0) (.cons (.con (.int 1)) .nil))) .nil))) (.val (.op .gt (.cons (.op .idx (.cons (.var 0) (.cons (.con (.int 1)) .nil))) (.cons (.con (.int 0)) .nil)))))
    (.cons (.ret (.op .eq (.cons (.var 4) (.cons (.op .add (.cons (.var 3) (.cons (.op .idx (.cons (.var 0) (.cons (.con (.int 1)) .nil))) .nil))) .nil))))
    .nil)
    .nil)
    (.cons (.ret (.or (.op .eq (.cons (.var 4) (.cons (.op .idx (.cons (.var 0) (.cons (.con (.int 0)) .nil))) .nil))) (.op .le (.cons (.var 4) (.cons (.var 3) .nil)))))
    .nil))))
def fn__law_stands : Fn := { np := 3, slots := 5, io := [], shapes := [⟨[.inl 0, .inl 1, .inl 2]⟩], body := b__law_stands }
def b_law : Sms :=
    (.cons (.loop (.name 1) .seq (.cons (.op .add (.cons (.lst (.cons (.call F__law_cell_at 0 (.cons (.var 0) (.cons (.con (.int 0)) .nil)) .nil) .nil)) (.cons (.slc (.cons (.var 0) .nil) (.cons (.con (.int 1)) .nil) (.cons (.con (.int 8)) .nil)) .nil))) .nil)
    (.cons (.asg (.name 2) (.call F__law_well 0 (.cons (.var 1) .nil) .nil))
    (.cons (.asg (.name 3) (.call F__law_one 0 (.cons (.lend 2) (.cons (.lst (.cons (.con (.int 2)) (.cons (.con (.int 9)) (.cons (.op .pow (.cons (.con (.int 10)) (.cons (.con (.int 15)) .nil))) .nil)))) .nil)) .nil))
    (.cons (.asg (.name 4) (.lst (.cons (.call F__law_pair 0 (.cons (.lend 2) (.cons (.var 3) .nil)) .nil) (.cons (.call F__law_pair 0 (.cons (.lend 2) (.cons (.var 3) .nil)) .nil) (.cons (.tup (.cons (.call F__law_draw 0 (.cons (.lend 2) (.cons (.op .add (.cons (.var 3) (.cons (.con (.int 1)) .nil))) .nil)) .nil) (.cons (.con (.int 0)) .nil))) .nil)))))
    (.cons (.asg (.name 5) (.lst (.cons (.con (.int 0)) (.cons (.call F__law_draw 0 (.cons (.lend 2) (.cons (.op .add (.cons (.var 3) (.cons (.con (.int 1)) .nil))) .nil)) .nil) (.cons (.call F__law_draw 0 (.cons (.lend 2) (.cons (.op .pow (.cons (.con (.int 10)) (.cons (.con (.int 15)) .nil))) .nil)) .nil) .nil)))))
    (.cons (.loop (.name 6) .seq (.cons (.var 4) .nil)
    (.cons (.asg (.name 7) (.lst (.cons (.con (.int 0)) (.cons (.con (.int 1)) (.cons (.con (.int 2)) (.cons (.call F__law_draw 0 (.cons (.lend 2) (.cons (.con (.int 40)) .nil)) .nil) (.cons (.call F__law_draw 0 (.cons (.lend 2) (.cons (.op .pow (.cons (.con (.int 10)) (.cons (.con (.int 12)) .nil))) .nil)) .nil) .nil)))))))
    (.cons (.loop (.tup [8, 9]) .enum (.cons (.var 5) .nil)
    (.cons (.ite (.not (.val (.call F__law_right 0 (.cons (.var 6) (.cons (.call F__law_one 0 (.cons (.lend 2) (.cons (.var 7) .nil)) .nil) (.cons (.call F__law_one 0 (.cons (.lend 2) (.cons (.var 7) .nil)) .nil) (.cons (.var 9) .nil)))) .nil)))
    (.cons (.ret (.con (.bl false)))
    .nil)
    .nil)
    (.cons (.ite (.not (.val (.call F__law_stands 0 (.cons (.var 6) (.cons (.var 9) (.cons (.op .add (.cons (.con (.int 1)) (.cons (.call F__law_draw 0 (.cons (.lend 2) (.cons (.op .idx (.cons (.lst (.cons (.con (.int 3)) (.cons (.op .pow (.cons (.con (.int 10)) (.cons (.con (.int 20)) .nil))) .nil))) (.cons (.op .mod (.cons (.op .intv (.cons (.var 8) .nil)) (.cons (.con (.int 2)) .nil))) .nil))) .nil)) .nil) .nil))) .nil))) .nil)))
    (.cons (.ret (.con (.bl false)))
    .nil)
    .nil)
    .nil)))
    .nil)))
    .nil))))))
    (.cons (.ret (.con (.bl true)))
    .nil))
def fn_law : Fn := { np := 1, slots := 10, io := [], shapes := [], body := b_law }
def tab : Nat → Option Fn
  | 0 => some fn_is_whole
  | 1 => some fn_is_count
  | 2 => some fn_is_pair
  | 3 => some fn_check_pair
  | 4 => some fn_check_count
  | 5 => some fn_led
  | 6 => some fn_put_on
  | 7 => some fn_then
  | 8 => some fn_behind
  | 9 => some fn_repeated
  | 10 => some fn_times
  | 11 => some fn__law_cell_at
  | 12 => some fn__law_well
  | 13 => some fn__law_draw
  | 14 => some fn__law_one
  | 15 => some fn__law_pair
  | 16 => some fn__law_lead
  | 17 => some fn__law_is_pair
  | 18 => some fn__law_then
  | 19 => some fn__law_times
  | 20 => some fn__law_right
  | 21 => some fn__law_stands
  | 22 => some fn_law
  | _ => none
@[simp] theorem tab_is_whole : tab F_is_whole = some fn_is_whole := rfl
@[simp] theorem io_is_whole : fn_is_whole.io = [] := rfl
@[simp] theorem shp_is_whole : fn_is_whole.shapes = [⟨[.inl 0]⟩] := rfl
@[simp] theorem tab_is_count : tab F_is_count = some fn_is_count := rfl
@[simp] theorem io_is_count : fn_is_count.io = [] := rfl
@[simp] theorem shp_is_count : fn_is_count.shapes = [⟨[.inl 0, .inr (.int 0)]⟩, ⟨[.inl 0, .inl 1]⟩] := rfl
@[simp] theorem tab_is_pair : tab F_is_pair = some fn_is_pair := rfl
@[simp] theorem io_is_pair : fn_is_pair.io = [] := rfl
@[simp] theorem shp_is_pair : fn_is_pair.shapes = [⟨[.inl 0]⟩] := rfl
@[simp] theorem tab_check_pair : tab F_check_pair = some fn_check_pair := rfl
@[simp] theorem io_check_pair : fn_check_pair.io = [] := rfl
@[simp] theorem shp_check_pair : fn_check_pair.shapes = [⟨[.inl 0]⟩] := rfl
@[simp] theorem tab_check_count : tab F_check_count = some fn_check_count := rfl
@[simp] theorem io_check_count : fn_check_count.io = [] := rfl
@[simp] theorem shp_check_count : fn_check_count.shapes = [⟨[.inl 0, .inr (.int 0)]⟩] := rfl
@[simp] theorem tab_led : tab F_led = some fn_led := rfl
@[simp] theorem io_led : fn_led.io = [] := rfl
@[simp] theorem shp_led : fn_led.shapes = [⟨[.inl 0, .inl 1]⟩] := rfl
@[simp] theorem tab_put_on : tab F_put_on = some fn_put_on := rfl
@[simp] theorem io_put_on : fn_put_on.io = [] := rfl
@[simp] theorem shp_put_on : fn_put_on.shapes = [⟨[.inl 0, .inl 1]⟩] := rfl
@[simp] theorem tab_then : tab F_then = some fn_then := rfl
@[simp] theorem io_then : fn_then.io = [] := rfl
@[simp] theorem shp_then : fn_then.shapes = [⟨[.inl 0, .inl 1]⟩] := rfl
@[simp] theorem tab_behind : tab F_behind = some fn_behind := rfl
@[simp] theorem io_behind : fn_behind.io = [] := rfl
@[simp] theorem shp_behind : fn_behind.shapes = [⟨[.inl 0, .inl 1]⟩] := rfl
@[simp] theorem tab_repeated : tab F_repeated = some fn_repeated := rfl
@[simp] theorem io_repeated : fn_repeated.io = [] := rfl
@[simp] theorem shp_repeated : fn_repeated.shapes = [⟨[.inl 0, .inl 1]⟩] := rfl
@[simp] theorem tab_times : tab F_times = some fn_times := rfl
@[simp] theorem io_times : fn_times.io = [] := rfl
@[simp] theorem shp_times : fn_times.shapes = [⟨[.inl 0, .inl 1]⟩] := rfl
@[simp] theorem tab__law_cell_at : tab F__law_cell_at = some fn__law_cell_at := rfl
@[simp] theorem io__law_cell_at : fn__law_cell_at.io = [] := rfl
@[simp] theorem shp__law_cell_at : fn__law_cell_at.shapes = [⟨[.inl 0, .inl 1]⟩] := rfl
@[simp] theorem tab__law_well : tab F__law_well = some fn__law_well := rfl
@[simp] theorem io__law_well : fn__law_well.io = [] := rfl
@[simp] theorem shp__law_well : fn__law_well.shapes = [⟨[.inl 0]⟩] := rfl
@[simp] theorem tab__law_draw : tab F__law_draw = some fn__law_draw := rfl
@[simp] theorem io__law_draw : fn__law_draw.io = [0] := rfl
@[simp] theorem shp__law_draw : fn__law_draw.shapes = [⟨[.inl 0, .inl 1]⟩] := rfl
@[simp] theorem tab__law_one : tab F__law_one = some fn__law_one := rfl
@[simp] theorem io__law_one : fn__law_one.io = [0] := rfl
@[simp] theorem shp__law_one : fn__law_one.shapes = [⟨[.inl 0, .inl 1]⟩] := rfl
@[simp] theorem tab__law_pair : tab F__law_pair = some fn__law_pair := rfl
@[simp] theorem io__law_pair : fn__law_pair.io = [0] := rfl
@[simp] theorem shp__law_pair : fn__law_pair.shapes = [⟨[.inl 0, .inl 1]⟩] := rfl
@[simp] theorem tab__law_lead : tab F__law_lead = some fn__law_lead := rfl
@[simp] theorem io__law_lead : fn__law_lead.io = [] := rfl
@[simp] theorem shp__law_lead : fn__law_lead.shapes = [⟨[.inl 0, .inl 1]⟩] := rfl
@[simp] theorem tab__law_is_pair : tab F__law_is_pair = some fn__law_is_pair := rfl
@[simp] theorem io__law_is_pair : fn__law_is_pair.io = [] := rfl
@[simp] theorem shp__law_is_pair : fn__law_is_pair.shapes = [⟨[.inl 0]⟩] := rfl
@[simp] theorem tab__law_then : tab F__law_then = some fn__law_then := rfl
@[simp] theorem io__law_then : fn__law_then.io = [] := rfl
@[simp] theorem shp__law_then : fn__law_then.shapes = [⟨[.inl 0, .inl 1]⟩] := rfl
@[simp] theorem tab__law_times : tab F__law_times = some fn__law_times := rfl
@[simp] theorem io__law_times : fn__law_times.io = [] := rfl
@[simp] theorem shp__law_times : fn__law_times.shapes = [⟨[.inl 0, .inl 1]⟩] := rfl
@[simp] theorem tab__law_right : tab F__law_right = some fn__law_right := rfl
@[simp] theorem io__law_right : fn__law_right.io = [] := rfl
@[simp] theorem shp__law_right : fn__law_right.shapes = [⟨[.inl 0, .inl 1, .inl 2, .inl 3]⟩] := rfl
@[simp] theorem tab__law_stands : tab F__law_stands = some fn__law_stands := rfl
@[simp] theorem io__law_stands : fn__law_stands.io = [] := rfl
@[simp] theorem shp__law_stands : fn__law_stands.shapes = [⟨[.inl 0, .inl 1, .inl 2]⟩] := rfl
@[simp] theorem tab_law : tab F_law = some fn_law := rfl
@[simp] theorem io_law : fn_law.io = [] := rfl
@[simp] theorem shp_law : fn_law.shapes = [] := rfl
def fi_is_whole : FI := ⟨"is_whole", [(1, [])]⟩
def fi_is_count : FI := ⟨"is_count", [(1, []), (2, [])]⟩
def fi_is_pair : FI := ⟨"is_pair", [(1, [])]⟩
def fi_check_pair : FI := ⟨"check_pair", [(1, [])]⟩
def fi_check_count : FI := ⟨"check_count", [(1, [])]⟩
def fi_led : FI := ⟨"led", [(2, [])]⟩
def fi_put_on : FI := ⟨"put_on", [(2, [])]⟩
def fi_then : FI := ⟨"then", [(2, [])]⟩
def fi_behind : FI := ⟨"behind", [(2, [])]⟩
def fi_repeated : FI := ⟨"repeated", [(2, [])]⟩
def fi_times : FI := ⟨"times", [(2, [])]⟩
def fi__law_cell_at : FI := ⟨"_law_cell_at", [(2, [])]⟩
def fi__law_well : FI := ⟨"_law_well", [(1, [])]⟩
def fi__law_draw : FI := ⟨"_law_draw", [(2, [])]⟩
def fi__law_one : FI := ⟨"_law_one", [(2, [])]⟩
def fi__law_pair : FI := ⟨"_law_pair", [(2, [])]⟩
def fi__law_lead : FI := ⟨"_law_lead", [(2, [])]⟩
def fi__law_is_pair : FI := ⟨"_law_is_pair", [(1, [])]⟩
def fi__law_then : FI := ⟨"_law_then", [(2, [])]⟩
def fi__law_times : FI := ⟨"_law_times", [(2, [])]⟩
def fi__law_right : FI := ⟨"_law_right", [(4, [])]⟩
def fi__law_stands : FI := ⟨"_law_stands", [(3, [])]⟩
def fi_law : FI := ⟨"law", []⟩
def fis : List FI := [fi_is_whole, fi_is_count, fi_is_pair, fi_check_pair, fi_check_count, fi_led, fi_put_on, fi_then, fi_behind, fi_repeated, fi_times, fi__law_cell_at, fi__law_well, fi__law_draw, fi__law_one, fi__law_pair, fi__law_lead, fi__law_is_pair, fi__law_then, fi__law_times, fi__law_right, fi__law_stands, fi_law]
def blt : List Str := ["bool", "enumerate", "int", "isinstance", "len", "max", "range", "tuple"]
def cons : List (Str × D) := []
def top (i : Nat) : Stmt := PySem.Challenge.pw_dripbell_k32_pairs_so_many_times.main.body.getD i (.Pass ⟨0, 0, 0, 0⟩)
abbrev s_is_whole : Stmt := top 4
abbrev N_is_whole : List Str := ["thing"]
abbrev ps_is_whole : List Str := ["thing"]
theorem sc_is_whole : L2.FnScope N_is_whole ps_is_whole (L2.defScope s_is_whole) := ⟨rfl, rfl, rfl, by decide +kernel, rfl, by decide +kernel, by decide +kernel⟩
theorem tr_is_whole : trSL (trS ⟨N_is_whole, fn_is_whole.io, fis, blt, cons⟩ tab 60 (L2.defScope s_is_whole) (fun _ => true) 60) (L2.defBody s_is_whole) = some fn_is_whole.body := by kernel_rfl
abbrev s_is_count : Stmt := top 5
abbrev N_is_count : List Str := ["thing", "least"]
abbrev ps_is_count : List Str := ["thing", "least"]
theorem sc_is_count : L2.FnScope N_is_count ps_is_count (L2.defScope s_is_count) := ⟨rfl, rfl, rfl, by decide +kernel, rfl, by decide +kernel, by decide +kernel⟩
theorem tr_is_count : trSL (trS ⟨N_is_count, fn_is_count.io, fis, blt, cons⟩ tab 60 (L2.defScope s_is_count) (fun _ => true) 60) (L2.defBody s_is_count) = some fn_is_count.body := by kernel_rfl
abbrev s_is_pair : Stmt := top 7
abbrev N_is_pair : List Str := ["pair"]
abbrev ps_is_pair : List Str := ["pair"]
theorem sc_is_pair : L2.FnScope N_is_pair ps_is_pair (L2.defScope s_is_pair) := ⟨rfl, rfl, rfl, by decide +kernel, rfl, by decide +kernel, by decide +kernel⟩
theorem tr_is_pair : trSL (trS ⟨N_is_pair, fn_is_pair.io, fis, blt, cons⟩ tab 60 (L2.defScope s_is_pair) (fun _ => true) 60) (L2.defBody s_is_pair) = some fn_is_pair.body := by kernel_rfl
abbrev s_check_pair : Stmt := top 8
abbrev N_check_pair : List Str := ["pair"]
abbrev ps_check_pair : List Str := ["pair"]
theorem sc_check_pair : L2.FnScope N_check_pair ps_check_pair (L2.defScope s_check_pair) := ⟨rfl, rfl, rfl, by decide +kernel, rfl, by decide +kernel, by decide +kernel⟩
theorem tr_check_pair : trSL (trS ⟨N_check_pair, fn_check_pair.io, fis, blt, cons⟩ tab 60 (L2.defScope s_check_pair) (fun _ => true) 60) (L2.defBody s_check_pair) = some fn_check_pair.body := by kernel_rfl
abbrev s_check_count : Stmt := top 9
abbrev N_check_count : List Str := ["count", "least"]
abbrev ps_check_count : List Str := ["count", "least"]
theorem sc_check_count : L2.FnScope N_check_count ps_check_count (L2.defScope s_check_count) := ⟨rfl, rfl, rfl, by decide +kernel, rfl, by decide +kernel, by decide +kernel⟩
theorem tr_check_count : trSL (trS ⟨N_check_count, fn_check_count.io, fis, blt, cons⟩ tab 60 (L2.defScope s_check_count) (fun _ => true) 60) (L2.defBody s_check_count) = some fn_check_count.body := by kernel_rfl
abbrev s_led : Stmt := top 10
abbrev N_led : List Str := ["pair", "count", "floor", "shift"]
abbrev ps_led : List Str := ["pair", "count"]
theorem sc_led : L2.FnScope N_led ps_led (L2.defScope s_led) := ⟨rfl, rfl, rfl, by decide +kernel, rfl, by decide +kernel, by decide +kernel⟩
theorem tr_led : trSL (trS ⟨N_led, fn_led.io, fis, blt, cons⟩ tab 60 (L2.defScope s_led) (fun _ => true) 60) (L2.defBody s_led) = some fn_led.body := by kernel_rfl
abbrev s_put_on : Stmt := top 11
abbrev N_put_on : List Str := ["pair", "count"]
abbrev ps_put_on : List Str := ["pair", "count"]
theorem sc_put_on : L2.FnScope N_put_on ps_put_on (L2.defScope s_put_on) := ⟨rfl, rfl, rfl, by decide +kernel, rfl, by decide +kernel, by decide +kernel⟩
theorem tr_put_on : trSL (trS ⟨N_put_on, fn_put_on.io, fis, blt, cons⟩ tab 60 (L2.defScope s_put_on) (fun _ => true) 60) (L2.defBody s_put_on) = some fn_put_on.body := by kernel_rfl
abbrev s_then : Stmt := top 12
abbrev N_then : List Str := ["one", "other", "shift"]
abbrev ps_then : List Str := ["one", "other"]
theorem sc_then : L2.FnScope N_then ps_then (L2.defScope s_then) := ⟨rfl, rfl, rfl, by decide +kernel, rfl, by decide +kernel, by decide +kernel⟩
theorem tr_then : trSL (trS ⟨N_then, fn_then.io, fis, blt, cons⟩ tab 60 (L2.defScope s_then) (fun _ => true) 60) (L2.defBody s_then) = some fn_then.body := by kernel_rfl
abbrev s_behind : Stmt := top 13
abbrev N_behind : List Str := ["one", "other"]
abbrev ps_behind : List Str := ["one", "other"]
theorem sc_behind : L2.FnScope N_behind ps_behind (L2.defScope s_behind) := ⟨rfl, rfl, rfl, by decide +kernel, rfl, by decide +kernel, by decide +kernel⟩
theorem tr_behind : trSL (trS ⟨N_behind, fn_behind.io, fis, blt, cons⟩ tab 60 (L2.defScope s_behind) (fun _ => true) 60) (L2.defBody s_behind) = some fn_behind.body := by kernel_rfl
abbrev s_repeated : Stmt := top 14
abbrev N_repeated : List Str := ["pair", "many", "floor", "shift"]
abbrev ps_repeated : List Str := ["pair", "many"]
theorem sc_repeated : L2.FnScope N_repeated ps_repeated (L2.defScope s_repeated) := ⟨rfl, rfl, rfl, by decide +kernel, rfl, by decide +kernel, by decide +kernel⟩
theorem tr_repeated : trSL (trS ⟨N_repeated, fn_repeated.io, fis, blt, cons⟩ tab 60 (L2.defScope s_repeated) (fun _ => true) 60) (L2.defBody s_repeated) = some fn_repeated.body := by kernel_rfl
abbrev s_times : Stmt := top 15
abbrev N_times : List Str := ["pair", "many"]
abbrev ps_times : List Str := ["pair", "many"]
theorem sc_times : L2.FnScope N_times ps_times (L2.defScope s_times) := ⟨rfl, rfl, rfl, by decide +kernel, rfl, by decide +kernel, by decide +kernel⟩
theorem tr_times : trSL (trS ⟨N_times, fn_times.io, fis, blt, cons⟩ tab 60 (L2.defScope s_times) (fun _ => true) 60) (L2.defBody s_times) = some fn_times.body := by kernel_rfl
abbrev s__law_cell_at : Stmt := top 17
abbrev N__law_cell_at : List Str := ["_law_script", "_law_k"]
abbrev ps__law_cell_at : List Str := ["_law_script", "_law_k"]
theorem sc__law_cell_at : L2.FnScope N__law_cell_at ps__law_cell_at (L2.defScope s__law_cell_at) := ⟨rfl, rfl, rfl, by decide +kernel, rfl, by decide +kernel, by decide +kernel⟩
theorem tr__law_cell_at : trSL (trS ⟨N__law_cell_at, fn__law_cell_at.io, fis, blt, cons⟩ tab 60 (L2.defScope s__law_cell_at) (fun _ => true) 60) (L2.defBody s__law_cell_at) = some fn__law_cell_at.body := by kernel_rfl
abbrev s__law_well : Stmt := top 18
abbrev N__law_well : List Str := ["_law_cell"]
abbrev ps__law_well : List Str := ["_law_cell"]
theorem sc__law_well : L2.FnScope N__law_well ps__law_well (L2.defScope s__law_well) := ⟨rfl, rfl, rfl, by decide +kernel, rfl, by decide +kernel, by decide +kernel⟩
theorem tr__law_well : trSL (trS ⟨N__law_well, fn__law_well.io, fis, blt, cons⟩ tab 60 (L2.defScope s__law_well) (fun _ => true) 60) (L2.defBody s__law_well) = some fn__law_well.body := by kernel_rfl
abbrev s__law_draw : Stmt := top 19
abbrev N__law_draw : List Str := ["_law_well_here", "_law_size", "_law_digit", "_law_mix"]
abbrev ps__law_draw : List Str := ["_law_well_here", "_law_size"]
theorem sc__law_draw : L2.FnScope N__law_draw ps__law_draw (L2.defScope s__law_draw) := ⟨rfl, rfl, rfl, by decide +kernel, rfl, by decide +kernel, by decide +kernel⟩
theorem tr__law_draw : trSL (trS ⟨N__law_draw, fn__law_draw.io, fis, blt, cons⟩ tab 60 (L2.defScope s__law_draw) (fun _ => true) 60) (L2.defBody s__law_draw) = some fn__law_draw.body := by kernel_rfl
abbrev s__law_one : Stmt := top 20
abbrev N__law_one : List Str := ["_law_well_here", "_law_some"]
abbrev ps__law_one : List Str := ["_law_well_here", "_law_some"]
theorem sc__law_one : L2.FnScope N__law_one ps__law_one (L2.defScope s__law_one) := ⟨rfl, rfl, rfl, by decide +kernel, rfl, by decide +kernel, by decide +kernel⟩
theorem tr__law_one : trSL (trS ⟨N__law_one, fn__law_one.io, fis, blt, cons⟩ tab 60 (L2.defScope s__law_one) (fun _ => true) 60) (L2.defBody s__law_one) = some fn__law_one.body := by kernel_rfl
abbrev s__law_pair : Stmt := top 21
abbrev N__law_pair : List Str := ["_law_well_here", "_law_top", "_law_low"]
abbrev ps__law_pair : List Str := ["_law_well_here", "_law_top"]
theorem sc__law_pair : L2.FnScope N__law_pair ps__law_pair (L2.defScope s__law_pair) := ⟨rfl, rfl, rfl, by decide +kernel, rfl, by decide +kernel, by decide +kernel⟩
theorem tr__law_pair : trSL (trS ⟨N__law_pair, fn__law_pair.io, fis, blt, cons⟩ tab 60 (L2.defScope s__law_pair) (fun _ => true) 60) (L2.defBody s__law_pair) = some fn__law_pair.body := by kernel_rfl
abbrev s__law_lead : Stmt := top 22
abbrev N__law_lead : List Str := ["_law_two", "_law_held"]
abbrev ps__law_lead : List Str := ["_law_two", "_law_held"]
theorem sc__law_lead : L2.FnScope N__law_lead ps__law_lead (L2.defScope s__law_lead) := ⟨rfl, rfl, rfl, by decide +kernel, rfl, by decide +kernel, by decide +kernel⟩
theorem tr__law_lead : trSL (trS ⟨N__law_lead, fn__law_lead.io, fis, blt, cons⟩ tab 60 (L2.defScope s__law_lead) (fun _ => true) 60) (L2.defBody s__law_lead) = some fn__law_lead.body := by kernel_rfl
abbrev s__law_is_pair : Stmt := top 23
abbrev N__law_is_pair : List Str := ["_law_thing", "_law_part"]
abbrev ps__law_is_pair : List Str := ["_law_thing"]
theorem sc__law_is_pair : L2.FnScope N__law_is_pair ps__law_is_pair (L2.defScope s__law_is_pair) := ⟨rfl, rfl, rfl, by decide +kernel, rfl, by decide +kernel, by decide +kernel⟩
theorem tr__law_is_pair : trSL (trS ⟨N__law_is_pair, fn__law_is_pair.io, fis, blt, cons⟩ tab 60 (L2.defScope s__law_is_pair) (fun _ => true) 60) (L2.defBody s__law_is_pair) = some fn__law_is_pair.body := by kernel_rfl
abbrev s__law_then : Stmt := top 24
abbrev N__law_then : List Str := ["_law_one_here", "_law_two", "_law_step_by"]
abbrev ps__law_then : List Str := ["_law_one_here", "_law_two"]
theorem sc__law_then : L2.FnScope N__law_then ps__law_then (L2.defScope s__law_then) := ⟨rfl, rfl, rfl, by decide +kernel, rfl, by decide +kernel, by decide +kernel⟩
theorem tr__law_then : trSL (trS ⟨N__law_then, fn__law_then.io, fis, blt, cons⟩ tab 60 (L2.defScope s__law_then) (fun _ => true) 60) (L2.defBody s__law_then) = some fn__law_then.body := by kernel_rfl
abbrev s__law_times : Stmt := top 25
abbrev N__law_times : List Str := ["_law_two", "_law_often", "_law_found", "_law_power"]
abbrev ps__law_times : List Str := ["_law_two", "_law_often"]
theorem sc__law_times : L2.FnScope N__law_times ps__law_times (L2.defScope s__law_times) := ⟨rfl, rfl, rfl, by decide +kernel, rfl, by decide +kernel, by decide +kernel⟩
theorem tr__law_times : trSL (trS ⟨N__law_times, fn__law_times.io, fis, blt, cons⟩ tab 60 (L2.defScope s__law_times) (fun _ => true) 60) (L2.defBody s__law_times) = some fn__law_times.body := by kernel_rfl
abbrev s__law_right : Stmt := top 26
abbrev N__law_right : List Str := ["_law_two", "_law_one_often", "_law_two_often", "_law_held", "_law_told", "_law_last", "_law_k"]
abbrev ps__law_right : List Str := ["_law_two", "_law_one_often", "_law_two_often", "_law_held"]
theorem sc__law_right : L2.FnScope N__law_right ps__law_right (L2.defScope s__law_right) := ⟨rfl, rfl, rfl, by decide +kernel, rfl, by decide +kernel, by decide +kernel⟩
theorem tr__law_right : trSL (trS ⟨N__law_right, fn__law_right.io, fis, blt, cons⟩ tab 60 (L2.defScope s__law_right) (fun _ => true) 60) (L2.defBody s__law_right) = some fn__law_right.body := by kernel_rfl
abbrev s__law_stands : Stmt := top 27
abbrev N__law_stands : List Str := ["_law_two", "_law_held", "_law_often", "_law_one_here", "_law_last"]
abbrev ps__law_stands : List Str := ["_law_two", "_law_held", "_law_often"]
theorem sc__law_stands : L2.FnScope N__law_stands ps__law_stands (L2.defScope s__law_stands) := ⟨rfl, rfl, rfl, by decide +kernel, rfl, by decide +kernel, by decide +kernel⟩
theorem tr__law_stands : trSL (trS ⟨N__law_stands, fn__law_stands.io, fis, blt, cons⟩ tab 60 (L2.defScope s__law_stands) (fun _ => true) 60) (L2.defBody s__law_stands) = some fn__law_stands.body := by kernel_rfl
abbrev s_law : Stmt := top 28
abbrev N_law : List Str := ["_law_script", "_law_cell", "_law_well_here", "_law_top", "_law_some", "_law_helds", "_law_two", "_law_often", "_law_k", "_law_held"]
abbrev ps_law : List Str := ["_law_script"]
theorem sc_law : L2.FnScope N_law ps_law (L2.defScope s_law) := ⟨rfl, rfl, rfl, by decide +kernel, rfl, by decide +kernel, by decide +kernel⟩
theorem tr_law : trSL (trS ⟨N_law, fn_law.io, fis, blt, cons⟩ tab 60 (L2.defScope s_law) (fun _ => true) 60) (L2.defBody s_law) = some fn_law.body := by kernel_rfl
theorem all_mk {P : Program} {w : World} {K : PySem.W.Frag} {h : Heap} {mg : Str → Option Value} {fa : Addr} (X : K.In h) (G : h.Ns mainGlobals mg) (hfa : mg "law" = some (.ref fa))
    {f_0 : Addr} {od_0 an_0 : Option Addr} {sl_0 : Array (Option Value)} {oc_0 kV_0 dc_0 pm_0 cd_0 ct_0 : Value}
    (a_0 : PySem.W.nsIn K mainGlobals "is_whole" = some (some (.ref f_0)))
    (l_0 : K.lookup f_0 = some ⟨oc_0, od_0, .func (PySem.W.fnOf "is_whole" "is_whole" (L2.defArgs s_is_whole) (L2.defBody s_is_whole) (L2.defScope s_is_whole) .none kV_0 dc_0 pm_0 an_0 cd_0 ct_0), sl_0⟩)
    (c_0 : PySem.W.codeIn K cd_0 "is_whole" = true) (k_0 : PySem.W.keepIn K (.ref f_0) = true)
    {f_1 : Addr} {od_1 an_1 : Option Addr} {sl_1 : Array (Option Value)} {oc_1 kV_1 dc_1 pm_1 cd_1 ct_1 : Value}
    (a_1 : PySem.W.nsIn K mainGlobals "is_count" = some (some (.ref f_1)))
    {T_1 : Addr} {cT_1 : Value} {dT_1 : Option Addr} {nT_1 : Nat} {slT_1 : Array (Option Value)} {t_1_0 : Tok}
    (l_1 : K.lookup f_1 = some ⟨oc_1, od_1, .func (PySem.W.fnOf "is_count" "is_count" (L2.defArgs s_is_count) (L2.defBody s_is_count) (L2.defScope s_is_count) (.ref T_1) kV_1 dc_1 pm_1 an_1 cd_1 ct_1), sl_1⟩)
    (c_1 : PySem.W.codeIn K cd_1 "is_count" = true) (k_1 : PySem.W.keepIn K (.ref f_1) = true)
    (d_1 : K.lookup T_1 = some ⟨cT_1, dT_1, .seq #[.int 0 t_1_0] nT_1, slT_1⟩)
    {f_2 : Addr} {od_2 an_2 : Option Addr} {sl_2 : Array (Option Value)} {oc_2 kV_2 dc_2 pm_2 cd_2 ct_2 : Value}
    (a_2 : PySem.W.nsIn K mainGlobals "is_pair" = some (some (.ref f_2)))
    (l_2 : K.lookup f_2 = some ⟨oc_2, od_2, .func (PySem.W.fnOf "is_pair" "is_pair" (L2.defArgs s_is_pair) (L2.defBody s_is_pair) (L2.defScope s_is_pair) .none kV_2 dc_2 pm_2 an_2 cd_2 ct_2), sl_2⟩)
    (c_2 : PySem.W.codeIn K cd_2 "is_pair" = true) (k_2 : PySem.W.keepIn K (.ref f_2) = true)
    {f_3 : Addr} {od_3 an_3 : Option Addr} {sl_3 : Array (Option Value)} {oc_3 kV_3 dc_3 pm_3 cd_3 ct_3 : Value}
    (a_3 : PySem.W.nsIn K mainGlobals "check_pair" = some (some (.ref f_3)))
    (l_3 : K.lookup f_3 = some ⟨oc_3, od_3, .func (PySem.W.fnOf "check_pair" "check_pair" (L2.defArgs s_check_pair) (L2.defBody s_check_pair) (L2.defScope s_check_pair) .none kV_3 dc_3 pm_3 an_3 cd_3 ct_3), sl_3⟩)
    (c_3 : PySem.W.codeIn K cd_3 "check_pair" = true) (k_3 : PySem.W.keepIn K (.ref f_3) = true)
    {f_4 : Addr} {od_4 an_4 : Option Addr} {sl_4 : Array (Option Value)} {oc_4 kV_4 dc_4 pm_4 cd_4 ct_4 : Value}
    (a_4 : PySem.W.nsIn K mainGlobals "check_count" = some (some (.ref f_4)))
    {T_4 : Addr} {cT_4 : Value} {dT_4 : Option Addr} {nT_4 : Nat} {slT_4 : Array (Option Value)} {t_4_0 : Tok}
    (l_4 : K.lookup f_4 = some ⟨oc_4, od_4, .func (PySem.W.fnOf "check_count" "check_count" (L2.defArgs s_check_count) (L2.defBody s_check_count) (L2.defScope s_check_count) (.ref T_4) kV_4 dc_4 pm_4 an_4 cd_4 ct_4), sl_4⟩)
    (c_4 : PySem.W.codeIn K cd_4 "check_count" = true) (k_4 : PySem.W.keepIn K (.ref f_4) = true)
    (d_4 : K.lookup T_4 = some ⟨cT_4, dT_4, .seq #[.int 0 t_4_0] nT_4, slT_4⟩)
    {f_5 : Addr} {od_5 an_5 : Option Addr} {sl_5 : Array (Option Value)} {oc_5 kV_5 dc_5 pm_5 cd_5 ct_5 : Value}
    (a_5 : PySem.W.nsIn K mainGlobals "led" = some (some (.ref f_5)))
    (l_5 : K.lookup f_5 = some ⟨oc_5, od_5, .func (PySem.W.fnOf "led" "led" (L2.defArgs s_led) (L2.defBody s_led) (L2.defScope s_led) .none kV_5 dc_5 pm_5 an_5 cd_5 ct_5), sl_5⟩)
    (c_5 : PySem.W.codeIn K cd_5 "led" = true) (k_5 : PySem.W.keepIn K (.ref f_5) = true)
    {f_6 : Addr} {od_6 an_6 : Option Addr} {sl_6 : Array (Option Value)} {oc_6 kV_6 dc_6 pm_6 cd_6 ct_6 : Value}
    (a_6 : PySem.W.nsIn K mainGlobals "put_on" = some (some (.ref f_6)))
    (l_6 : K.lookup f_6 = some ⟨oc_6, od_6, .func (PySem.W.fnOf "put_on" "put_on" (L2.defArgs s_put_on) (L2.defBody s_put_on) (L2.defScope s_put_on) .none kV_6 dc_6 pm_6 an_6 cd_6 ct_6), sl_6⟩)
    (c_6 : PySem.W.codeIn K cd_6 "put_on" = true) (k_6 : PySem.W.keepIn K (.ref f_6) = true)
    {f_7 : Addr} {od_7 an_7 : Option Addr} {sl_7 : Array (Option Value)} {oc_7 kV_7 dc_7 pm_7 cd_7 ct_7 : Value}
    (a_7 : PySem.W.nsIn K mainGlobals "then" = some (some (.ref f_7)))
    (l_7 : K.lookup f_7 = some ⟨oc_7, od_7, .func (PySem.W.fnOf "then" "then" (L2.defArgs s_then) (L2.defBody s_then) (L2.defScope s_then) .none kV_7 dc_7 pm_7 an_7 cd_7 ct_7), sl_7⟩)
    (c_7 : PySem.W.codeIn K cd_7 "then" = true) (k_7 : PySem.W.keepIn K (.ref f_7) = true)
    {f_8 : Addr} {od_8 an_8 : Option Addr} {sl_8 : Array (Option Value)} {oc_8 kV_8 dc_8 pm_8 cd_8 ct_8 : Value}
    (a_8 : PySem.W.nsIn K mainGlobals "behind" = some (some (.ref f_8)))
    (l_8 : K.lookup f_8 = some ⟨oc_8, od_8, .func (PySem.W.fnOf "behind" "behind" (L2.defArgs s_behind) (L2.defBody s_behind) (L2.defScope s_behind) .none kV_8 dc_8 pm_8 an_8 cd_8 ct_8), sl_8⟩)
    (c_8 : PySem.W.codeIn K cd_8 "behind" = true) (k_8 : PySem.W.keepIn K (.ref f_8) = true)
    {f_9 : Addr} {od_9 an_9 : Option Addr} {sl_9 : Array (Option Value)} {oc_9 kV_9 dc_9 pm_9 cd_9 ct_9 : Value}
    (a_9 : PySem.W.nsIn K mainGlobals "repeated" = some (some (.ref f_9)))
    (l_9 : K.lookup f_9 = some ⟨oc_9, od_9, .func (PySem.W.fnOf "repeated" "repeated" (L2.defArgs s_repeated) (L2.defBody s_repeated) (L2.defScope s_repeated) .none kV_9 dc_9 pm_9 an_9 cd_9 ct_9), sl_9⟩)
    (c_9 : PySem.W.codeIn K cd_9 "repeated" = true) (k_9 : PySem.W.keepIn K (.ref f_9) = true)
    {f_10 : Addr} {od_10 an_10 : Option Addr} {sl_10 : Array (Option Value)} {oc_10 kV_10 dc_10 pm_10 cd_10 ct_10 : Value}
    (a_10 : PySem.W.nsIn K mainGlobals "times" = some (some (.ref f_10)))
    (l_10 : K.lookup f_10 = some ⟨oc_10, od_10, .func (PySem.W.fnOf "times" "times" (L2.defArgs s_times) (L2.defBody s_times) (L2.defScope s_times) .none kV_10 dc_10 pm_10 an_10 cd_10 ct_10), sl_10⟩)
    (c_10 : PySem.W.codeIn K cd_10 "times" = true) (k_10 : PySem.W.keepIn K (.ref f_10) = true)
    {f_11 : Addr} {od_11 an_11 : Option Addr} {sl_11 : Array (Option Value)} {oc_11 kV_11 dc_11 pm_11 cd_11 ct_11 : Value}
    (a_11 : PySem.W.nsIn K mainGlobals "_law_cell_at" = some (some (.ref f_11)))
    (l_11 : K.lookup f_11 = some ⟨oc_11, od_11, .func (PySem.W.fnOf "_law_cell_at" "_law_cell_at" (L2.defArgs s__law_cell_at) (L2.defBody s__law_cell_at) (L2.defScope s__law_cell_at) .none kV_11 dc_11 pm_11 an_11 cd_11 ct_11), sl_11⟩)
    (c_11 : PySem.W.codeIn K cd_11 "_law_cell_at" = true) (k_11 : PySem.W.keepIn K (.ref f_11) = true)
    {f_12 : Addr} {od_12 an_12 : Option Addr} {sl_12 : Array (Option Value)} {oc_12 kV_12 dc_12 pm_12 cd_12 ct_12 : Value}
    (a_12 : PySem.W.nsIn K mainGlobals "_law_well" = some (some (.ref f_12)))
    (l_12 : K.lookup f_12 = some ⟨oc_12, od_12, .func (PySem.W.fnOf "_law_well" "_law_well" (L2.defArgs s__law_well) (L2.defBody s__law_well) (L2.defScope s__law_well) .none kV_12 dc_12 pm_12 an_12 cd_12 ct_12), sl_12⟩)
    (c_12 : PySem.W.codeIn K cd_12 "_law_well" = true) (k_12 : PySem.W.keepIn K (.ref f_12) = true)
    {f_13 : Addr} {od_13 an_13 : Option Addr} {sl_13 : Array (Option Value)} {oc_13 kV_13 dc_13 pm_13 cd_13 ct_13 : Value}
    (a_13 : PySem.W.nsIn K mainGlobals "_law_draw" = some (some (.ref f_13)))
    (l_13 : K.lookup f_13 = some ⟨oc_13, od_13, .func (PySem.W.fnOf "_law_draw" "_law_draw" (L2.defArgs s__law_draw) (L2.defBody s__law_draw) (L2.defScope s__law_draw) .none kV_13 dc_13 pm_13 an_13 cd_13 ct_13), sl_13⟩)
    (c_13 : PySem.W.codeIn K cd_13 "_law_draw" = true) (k_13 : PySem.W.keepIn K (.ref f_13) = true)
    {f_14 : Addr} {od_14 an_14 : Option Addr} {sl_14 : Array (Option Value)} {oc_14 kV_14 dc_14 pm_14 cd_14 ct_14 : Value}
    (a_14 : PySem.W.nsIn K mainGlobals "_law_one" = some (some (.ref f_14)))
    (l_14 : K.lookup f_14 = some ⟨oc_14, od_14, .func (PySem.W.fnOf "_law_one" "_law_one" (L2.defArgs s__law_one) (L2.defBody s__law_one) (L2.defScope s__law_one) .none kV_14 dc_14 pm_14 an_14 cd_14 ct_14), sl_14⟩)
    (c_14 : PySem.W.codeIn K cd_14 "_law_one" = true) (k_14 : PySem.W.keepIn K (.ref f_14) = true)
    {f_15 : Addr} {od_15 an_15 : Option Addr} {sl_15 : Array (Option Value)} {oc_15 kV_15 dc_15 pm_15 cd_15 ct_15 : Value}
    (a_15 : PySem.W.nsIn K mainGlobals "_law_pair" = some (some (.ref f_15)))
    (l_15 : K.lookup f_15 = some ⟨oc_15, od_15, .func (PySem.W.fnOf "_law_pair" "_law_pair" (L2.defArgs s__law_pair) (L2.defBody s__law_pair) (L2.defScope s__law_pair) .none kV_15 dc_15 pm_15 an_15 cd_15 ct_15), sl_15⟩)
    (c_15 : PySem.W.codeIn K cd_15 "_law_pair" = true) (k_15 : PySem.W.keepIn K (.ref f_15) = true)
    {f_16 : Addr} {od_16 an_16 : Option Addr} {sl_16 : Array (Option Value)} {oc_16 kV_16 dc_16 pm_16 cd_16 ct_16 : Value}
    (a_16 : PySem.W.nsIn K mainGlobals "_law_lead" = some (some (.ref f_16)))
    (l_16 : K.lookup f_16 = some ⟨oc_16, od_16, .func (PySem.W.fnOf "_law_lead" "_law_lead" (L2.defArgs s__law_lead) (L2.defBody s__law_lead) (L2.defScope s__law_lead) .none kV_16 dc_16 pm_16 an_16 cd_16 ct_16), sl_16⟩)
    (c_16 : PySem.W.codeIn K cd_16 "_law_lead" = true) (k_16 : PySem.W.keepIn K (.ref f_16) = true)
    {f_17 : Addr} {od_17 an_17 : Option Addr} {sl_17 : Array (Option Value)} {oc_17 kV_17 dc_17 pm_17 cd_17 ct_17 : Value}
    (a_17 : PySem.W.nsIn K mainGlobals "_law_is_pair" = some (some (.ref f_17)))
    (l_17 : K.lookup f_17 = some ⟨oc_17, od_17, .func (PySem.W.fnOf "_law_is_pair" "_law_is_pair" (L2.defArgs s__law_is_pair) (L2.defBody s__law_is_pair) (L2.defScope s__law_is_pair) .none kV_17 dc_17 pm_17 an_17 cd_17 ct_17), sl_17⟩)
    (c_17 : PySem.W.codeIn K cd_17 "_law_is_pair" = true) (k_17 : PySem.W.keepIn K (.ref f_17) = true)
    {f_18 : Addr} {od_18 an_18 : Option Addr} {sl_18 : Array (Option Value)} {oc_18 kV_18 dc_18 pm_18 cd_18 ct_18 : Value}
    (a_18 : PySem.W.nsIn K mainGlobals "_law_then" = some (some (.ref f_18)))
    (l_18 : K.lookup f_18 = some ⟨oc_18, od_18, .func (PySem.W.fnOf "_law_then" "_law_then" (L2.defArgs s__law_then) (L2.defBody s__law_then) (L2.defScope s__law_then) .none kV_18 dc_18 pm_18 an_18 cd_18 ct_18), sl_18⟩)
    (c_18 : PySem.W.codeIn K cd_18 "_law_then" = true) (k_18 : PySem.W.keepIn K (.ref f_18) = true)
    {f_19 : Addr} {od_19 an_19 : Option Addr} {sl_19 : Array (Option Value)} {oc_19 kV_19 dc_19 pm_19 cd_19 ct_19 : Value}
    (a_19 : PySem.W.nsIn K mainGlobals "_law_times" = some (some (.ref f_19)))
    (l_19 : K.lookup f_19 = some ⟨oc_19, od_19, .func (PySem.W.fnOf "_law_times" "_law_times" (L2.defArgs s__law_times) (L2.defBody s__law_times) (L2.defScope s__law_times) .none kV_19 dc_19 pm_19 an_19 cd_19 ct_19), sl_19⟩)
    (c_19 : PySem.W.codeIn K cd_19 "_law_times" = true) (k_19 : PySem.W.keepIn K (.ref f_19) = true)
    {f_20 : Addr} {od_20 an_20 : Option Addr} {sl_20 : Array (Option Value)} {oc_20 kV_20 dc_20 pm_20 cd_20 ct_20 : Value}
    (a_20 : PySem.W.nsIn K mainGlobals "_law_right" = some (some (.ref f_20)))
    (l_20 : K.lookup f_20 = some ⟨oc_20, od_20, .func (PySem.W.fnOf "_law_right" "_law_right" (L2.defArgs s__law_right) (L2.defBody s__law_right) (L2.defScope s__law_right) .none kV_20 dc_20 pm_20 an_20 cd_20 ct_20), sl_20⟩)
    (c_20 : PySem.W.codeIn K cd_20 "_law_right" = true) (k_20 : PySem.W.keepIn K (.ref f_20) = true)
    {f_21 : Addr} {od_21 an_21 : Option Addr} {sl_21 : Array (Option Value)} {oc_21 kV_21 dc_21 pm_21 cd_21 ct_21 : Value}
    (a_21 : PySem.W.nsIn K mainGlobals "_law_stands" = some (some (.ref f_21)))
    (l_21 : K.lookup f_21 = some ⟨oc_21, od_21, .func (PySem.W.fnOf "_law_stands" "_law_stands" (L2.defArgs s__law_stands) (L2.defBody s__law_stands) (L2.defScope s__law_stands) .none kV_21 dc_21 pm_21 an_21 cd_21 ct_21), sl_21⟩)
    (c_21 : PySem.W.codeIn K cd_21 "_law_stands" = true) (k_21 : PySem.W.keepIn K (.ref f_21) = true)
    {f_22 : Addr} {od_22 an_22 : Option Addr} {sl_22 : Array (Option Value)} {oc_22 kV_22 dc_22 pm_22 cd_22 ct_22 : Value}
    (a_22 : PySem.W.nsIn K mainGlobals "law" = some (some (.ref f_22)))
    (l_22 : K.lookup f_22 = some ⟨oc_22, od_22, .func (PySem.W.fnOf "law" "law" (L2.defArgs s_law) (L2.defBody s_law) (L2.defScope s_law) .none kV_22 dc_22 pm_22 an_22 cd_22 ct_22), sl_22⟩)
    (c_22 : PySem.W.codeIn K cd_22 "law" = true) (k_22 : PySem.W.keepIn K (.ref f_22) = true)
    (z_0 : PySem.W.nsIn K mainGlobals "bool" = some none)
    (z_1 : PySem.W.nsIn K mainGlobals "enumerate" = some none)
    (z_2 : PySem.W.nsIn K mainGlobals "int" = some none)
    (z_3 : PySem.W.nsIn K mainGlobals "isinstance" = some none)
    (z_4 : PySem.W.nsIn K mainGlobals "len" = some none)
    (z_5 : PySem.W.nsIn K mainGlobals "max" = some none)
    (z_6 : PySem.W.nsIn K mainGlobals "range" = some none)
    (z_7 : PySem.W.nsIn K mainGlobals "tuple" = some none) (fu n : Nat) :
    ∃ fd : FuncData, (∀ (s : Shared) (u : Value), BindsTo s fd ⟨[u], []⟩ [("_law_script", u)]) ∧ ∀ base : Heap, K.In base → base.Ns mainGlobals mg → L2.FnOk P w K mg base L2.CX0 n fa fd ["_law_script"] (spF K (run tab fu n) F_law fn_law) := by
  have e : fa = f_22 := by
    have e := hfa.symm.trans (PySem.W.mg_of X G a_22)
    cases e
    rfl
  rw [e]
  have F_0 : L2.FunD K "is_whole" "is_whole" (L2.defArgs s_is_whole) (L2.defBody s_is_whole) (L2.defScope s_is_whole) [] [] f_0 (PySem.W.fnOf "is_whole" "is_whole" (L2.defArgs s_is_whole) (L2.defBody s_is_whole) (L2.defScope s_is_whole) .none kV_0 dc_0 pm_0 an_0 cd_0 ct_0) := ⟨⟨_, _, _, _, _, _, _, _, _, _, rfl, l_0, c_0, (.inl ⟨rfl, rfl⟩), .inl rfl⟩, k_0⟩
  have R_0 : RowAt K mg tab fis blt cons fn_is_whole fi_is_whole f_0 (PySem.W.fnOf "is_whole" "is_whole" (L2.defArgs s_is_whole) (L2.defBody s_is_whole) (L2.defScope s_is_whole) .none kV_0 dc_0 pm_0 an_0 cd_0 ct_0) ps_is_whole := row_mk F_0 sc_is_whole tr_is_whole rfl rfl (by decide) (by decide) (by decide) (PySem.W.mg_of X G a_0) (.cons (sh_all (ps := ps_is_whole) (n := 1) (fun us hl => match us, hl with | [_], _ => rfl) rfl rfl) .nil)
  have F_1 : L2.FunD K "is_count" "is_count" (L2.defArgs s_is_count) (L2.defBody s_is_count) (L2.defScope s_is_count) [.int 0] [] f_1 (PySem.W.fnOf "is_count" "is_count" (L2.defArgs s_is_count) (L2.defBody s_is_count) (L2.defScope s_is_count) (.ref T_1) kV_1 dc_1 pm_1 an_1 cd_1 ct_1) := ⟨⟨_, _, _, _, _, _, _, _, _, _, rfl, l_1, c_1, (.inr ⟨by simp, T_1, _, [.int 0 t_1_0], nT_1, rfl, d_1, rfl, .cons ⟨_, rfl⟩ (.nil)⟩), .inl rfl⟩, k_1⟩
  have R_1 : RowAt K mg tab fis blt cons fn_is_count fi_is_count f_1 (PySem.W.fnOf "is_count" "is_count" (L2.defArgs s_is_count) (L2.defBody s_is_count) (L2.defScope s_is_count) (.ref T_1) kV_1 dc_1 pm_1 an_1 cd_1 ct_1) ps_is_count := row_mk F_1 sc_is_count tr_is_count rfl rfl (by decide) (by decide) (by decide) (PySem.W.mg_of X G a_1) (.cons (sh_dfl F_1 (ps := ps_is_count) 1 0 (by simp) rfl (fun T kV doc pm an cdv ct us its h1 h2 => match us, its, h1, h2 with | [_], [_], _, _ => ⟨_, rfl, rfl⟩) (ds := [D.int 0]) rfl (.cons (fun _ _ => .int _) .nil)) (.cons (sh_dfl F_1 (ps := ps_is_count) 2 1 (by simp) rfl (fun T kV doc pm an cdv ct us its h1 h2 => match us, its, h1, h2 with | [_, _], [_], _, _ => ⟨_, rfl, rfl⟩) (ds := []) rfl .nil) .nil))
  have F_2 : L2.FunD K "is_pair" "is_pair" (L2.defArgs s_is_pair) (L2.defBody s_is_pair) (L2.defScope s_is_pair) [] [] f_2 (PySem.W.fnOf "is_pair" "is_pair" (L2.defArgs s_is_pair) (L2.defBody s_is_pair) (L2.defScope s_is_pair) .none kV_2 dc_2 pm_2 an_2 cd_2 ct_2) := ⟨⟨_, _, _, _, _, _, _, _, _, _, rfl, l_2, c_2, (.inl ⟨rfl, rfl⟩), .inl rfl⟩, k_2⟩
  have R_2 : RowAt K mg tab fis blt cons fn_is_pair fi_is_pair f_2 (PySem.W.fnOf "is_pair" "is_pair" (L2.defArgs s_is_pair) (L2.defBody s_is_pair) (L2.defScope s_is_pair) .none kV_2 dc_2 pm_2 an_2 cd_2 ct_2) ps_is_pair := row_mk F_2 sc_is_pair tr_is_pair rfl rfl (by decide) (by decide) (by decide) (PySem.W.mg_of X G a_2) (.cons (sh_all (ps := ps_is_pair) (n := 1) (fun us hl => match us, hl with | [_], _ => rfl) rfl rfl) .nil)
  have F_3 : L2.FunD K "check_pair" "check_pair" (L2.defArgs s_check_pair) (L2.defBody s_check_pair) (L2.defScope s_check_pair) [] [] f_3 (PySem.W.fnOf "check_pair" "check_pair" (L2.defArgs s_check_pair) (L2.defBody s_check_pair) (L2.defScope s_check_pair) .none kV_3 dc_3 pm_3 an_3 cd_3 ct_3) := ⟨⟨_, _, _, _, _, _, _, _, _, _, rfl, l_3, c_3, (.inl ⟨rfl, rfl⟩), .inl rfl⟩, k_3⟩
  have R_3 : RowAt K mg tab fis blt cons fn_check_pair fi_check_pair f_3 (PySem.W.fnOf "check_pair" "check_pair" (L2.defArgs s_check_pair) (L2.defBody s_check_pair) (L2.defScope s_check_pair) .none kV_3 dc_3 pm_3 an_3 cd_3 ct_3) ps_check_pair := row_mk F_3 sc_check_pair tr_check_pair rfl rfl (by decide) (by decide) (by decide) (PySem.W.mg_of X G a_3) (.cons (sh_all (ps := ps_check_pair) (n := 1) (fun us hl => match us, hl with | [_], _ => rfl) rfl rfl) .nil)
  have F_4 : L2.FunD K "check_count" "check_count" (L2.defArgs s_check_count) (L2.defBody s_check_count) (L2.defScope s_check_count) [.int 0] [] f_4 (PySem.W.fnOf "check_count" "check_count" (L2.defArgs s_check_count) (L2.defBody s_check_count) (L2.defScope s_check_count) (.ref T_4) kV_4 dc_4 pm_4 an_4 cd_4 ct_4) := ⟨⟨_, _, _, _, _, _, _, _, _, _, rfl, l_4, c_4, (.inr ⟨by simp, T_4, _, [.int 0 t_4_0], nT_4, rfl, d_4, rfl, .cons ⟨_, rfl⟩ (.nil)⟩), .inl rfl⟩, k_4⟩
  have R_4 : RowAt K mg tab fis blt cons fn_check_count fi_check_count f_4 (PySem.W.fnOf "check_count" "check_count" (L2.defArgs s_check_count) (L2.defBody s_check_count) (L2.defScope s_check_count) (.ref T_4) kV_4 dc_4 pm_4 an_4 cd_4 ct_4) ps_check_count := row_mk F_4 sc_check_count tr_check_count rfl rfl (by decide) (by decide) (by decide) (PySem.W.mg_of X G a_4) (.cons (sh_dfl F_4 (ps := ps_check_count) 1 0 (by simp) rfl (fun T kV doc pm an cdv ct us its h1 h2 => match us, its, h1, h2 with | [_], [_], _, _ => ⟨_, rfl, rfl⟩) (ds := [D.int 0]) rfl (.cons (fun _ _ => .int _) .nil)) .nil)
  have F_5 : L2.FunD K "led" "led" (L2.defArgs s_led) (L2.defBody s_led) (L2.defScope s_led) [] [] f_5 (PySem.W.fnOf "led" "led" (L2.defArgs s_led) (L2.defBody s_led) (L2.defScope s_led) .none kV_5 dc_5 pm_5 an_5 cd_5 ct_5) := ⟨⟨_, _, _, _, _, _, _, _, _, _, rfl, l_5, c_5, (.inl ⟨rfl, rfl⟩), .inl rfl⟩, k_5⟩
  have R_5 : RowAt K mg tab fis blt cons fn_led fi_led f_5 (PySem.W.fnOf "led" "led" (L2.defArgs s_led) (L2.defBody s_led) (L2.defScope s_led) .none kV_5 dc_5 pm_5 an_5 cd_5 ct_5) ps_led := row_mk F_5 sc_led tr_led rfl rfl (by decide) (by decide) (by decide) (PySem.W.mg_of X G a_5) (.cons (sh_all (ps := ps_led) (n := 2) (fun us hl => match us, hl with | [_, _], _ => rfl) rfl rfl) .nil)
  have F_6 : L2.FunD K "put_on" "put_on" (L2.defArgs s_put_on) (L2.defBody s_put_on) (L2.defScope s_put_on) [] [] f_6 (PySem.W.fnOf "put_on" "put_on" (L2.defArgs s_put_on) (L2.defBody s_put_on) (L2.defScope s_put_on) .none kV_6 dc_6 pm_6 an_6 cd_6 ct_6) := ⟨⟨_, _, _, _, _, _, _, _, _, _, rfl, l_6, c_6, (.inl ⟨rfl, rfl⟩), .inl rfl⟩, k_6⟩
  have R_6 : RowAt K mg tab fis blt cons fn_put_on fi_put_on f_6 (PySem.W.fnOf "put_on" "put_on" (L2.defArgs s_put_on) (L2.defBody s_put_on) (L2.defScope s_put_on) .none kV_6 dc_6 pm_6 an_6 cd_6 ct_6) ps_put_on := row_mk F_6 sc_put_on tr_put_on rfl rfl (by decide) (by decide) (by decide) (PySem.W.mg_of X G a_6) (.cons (sh_all (ps := ps_put_on) (n := 2) (fun us hl => match us, hl with | [_, _], _ => rfl) rfl rfl) .nil)
  have F_7 : L2.FunD K "then" "then" (L2.defArgs s_then) (L2.defBody s_then) (L2.defScope s_then) [] [] f_7 (PySem.W.fnOf "then" "then" (L2.defArgs s_then) (L2.defBody s_then) (L2.defScope s_then) .none kV_7 dc_7 pm_7 an_7 cd_7 ct_7) := ⟨⟨_, _, _, _, _, _, _, _, _, _, rfl, l_7, c_7, (.inl ⟨rfl, rfl⟩), .inl rfl⟩, k_7⟩
  have R_7 : RowAt K mg tab fis blt cons fn_then fi_then f_7 (PySem.W.fnOf "then" "then" (L2.defArgs s_then) (L2.defBody s_then) (L2.defScope s_then) .none kV_7 dc_7 pm_7 an_7 cd_7 ct_7) ps_then := row_mk F_7 sc_then tr_then rfl rfl (by decide) (by decide) (by decide) (PySem.W.mg_of X G a_7) (.cons (sh_all (ps := ps_then) (n := 2) (fun us hl => match us, hl with | [_, _], _ => rfl) rfl rfl) .nil)
  have F_8 : L2.FunD K "behind" "behind" (L2.defArgs s_behind) (L2.defBody s_behind) (L2.defScope s_behind) [] [] f_8 (PySem.W.fnOf "behind" "behind" (L2.defArgs s_behind) (L2.defBody s_behind) (L2.defScope s_behind) .none kV_8 dc_8 pm_8 an_8 cd_8 ct_8) := ⟨⟨_, _, _, _, _, _, _, _, _, _, rfl, l_8, c_8, (.inl ⟨rfl, rfl⟩), .inl rfl⟩, k_8⟩
  have R_8 : RowAt K mg tab fis blt cons fn_behind fi_behind f_8 (PySem.W.fnOf "behind" "behind" (L2.defArgs s_behind) (L2.defBody s_behind) (L2.defScope s_behind) .none kV_8 dc_8 pm_8 an_8 cd_8 ct_8) ps_behind := row_mk F_8 sc_behind tr_behind rfl rfl (by decide) (by decide) (by decide) (PySem.W.mg_of X G a_8) (.cons (sh_all (ps := ps_behind) (n := 2) (fun us hl => match us, hl with | [_, _], _ => rfl) rfl rfl) .nil)
  have F_9 : L2.FunD K "repeated" "repeated" (L2.defArgs s_repeated) (L2.defBody s_repeated) (L2.defScope s_repeated) [] [] f_9 (PySem.W.fnOf "repeated" "repeated" (L2.defArgs s_repeated) (L2.defBody s_repeated) (L2.defScope s_repeated) .none kV_9 dc_9 pm_9 an_9 cd_9 ct_9) := ⟨⟨_, _, _, _, _, _, _, _, _, _, rfl, l_9, c_9, (.inl ⟨rfl, rfl⟩), .inl rfl⟩, k_9⟩
  have R_9 : RowAt K mg tab fis blt cons fn_repeated fi_repeated f_9 (PySem.W.fnOf "repeated" "repeated" (L2.defArgs s_repeated) (L2.defBody s_repeated) (L2.defScope s_repeated) .none kV_9 dc_9 pm_9 an_9 cd_9 ct_9) ps_repeated := row_mk F_9 sc_repeated tr_repeated rfl rfl (by decide) (by decide) (by decide) (PySem.W.mg_of X G a_9) (.cons (sh_all (ps := ps_repeated) (n := 2) (fun us hl => match us, hl with | [_, _], _ => rfl) rfl rfl) .nil)
  have F_10 : L2.FunD K "times" "times" (L2.defArgs s_times) (L2.defBody s_times) (L2.defScope s_times) [] [] f_10 (PySem.W.fnOf "times" "times" (L2.defArgs s_times) (L2.defBody s_times) (L2.defScope s_times) .none kV_10 dc_10 pm_10 an_10 cd_10 ct_10) := ⟨⟨_, _, _, _, _, _, _, _, _, _, rfl, l_10, c_10, (.inl ⟨rfl, rfl⟩), .inl rfl⟩, k_10⟩
  have R_10 : RowAt K mg tab fis blt cons fn_times fi_times f_10 (PySem.W.fnOf "times" "times" (L2.defArgs s_times) (L2.defBody s_times) (L2.defScope s_times) .none kV_10 dc_10 pm_10 an_10 cd_10 ct_10) ps_times := row_mk F_10 sc_times tr_times rfl rfl (by decide) (by decide) (by decide) (PySem.W.mg_of X G a_10) (.cons (sh_all (ps := ps_times) (n := 2) (fun us hl => match us, hl with | [_, _], _ => rfl) rfl rfl) .nil)
  have F_11 : L2.FunD K "_law_cell_at" "_law_cell_at" (L2.defArgs s__law_cell_at) (L2.defBody s__law_cell_at) (L2.defScope s__law_cell_at) [] [] f_11 (PySem.W.fnOf "_law_cell_at" "_law_cell_at" (L2.defArgs s__law_cell_at) (L2.defBody s__law_cell_at) (L2.defScope s__law_cell_at) .none kV_11 dc_11 pm_11 an_11 cd_11 ct_11) := ⟨⟨_, _, _, _, _, _, _, _, _, _, rfl, l_11, c_11, (.inl ⟨rfl, rfl⟩), .inl rfl⟩, k_11⟩
  have R_11 : RowAt K mg tab fis blt cons fn__law_cell_at fi__law_cell_at f_11 (PySem.W.fnOf "_law_cell_at" "_law_cell_at" (L2.defArgs s__law_cell_at) (L2.defBody s__law_cell_at) (L2.defScope s__law_cell_at) .none kV_11 dc_11 pm_11 an_11 cd_11 ct_11) ps__law_cell_at := row_mk F_11 sc__law_cell_at tr__law_cell_at rfl rfl (by decide) (by decide) (by decide) (PySem.W.mg_of X G a_11) (.cons (sh_all (ps := ps__law_cell_at) (n := 2) (fun us hl => match us, hl with | [_, _], _ => rfl) rfl rfl) .nil)
  have F_12 : L2.FunD K "_law_well" "_law_well" (L2.defArgs s__law_well) (L2.defBody s__law_well) (L2.defScope s__law_well) [] [] f_12 (PySem.W.fnOf "_law_well" "_law_well" (L2.defArgs s__law_well) (L2.defBody s__law_well) (L2.defScope s__law_well) .none kV_12 dc_12 pm_12 an_12 cd_12 ct_12) := ⟨⟨_, _, _, _, _, _, _, _, _, _, rfl, l_12, c_12, (.inl ⟨rfl, rfl⟩), .inl rfl⟩, k_12⟩
  have R_12 : RowAt K mg tab fis blt cons fn__law_well fi__law_well f_12 (PySem.W.fnOf "_law_well" "_law_well" (L2.defArgs s__law_well) (L2.defBody s__law_well) (L2.defScope s__law_well) .none kV_12 dc_12 pm_12 an_12 cd_12 ct_12) ps__law_well := row_mk F_12 sc__law_well tr__law_well rfl rfl (by decide) (by decide) (by decide) (PySem.W.mg_of X G a_12) (.cons (sh_all (ps := ps__law_well) (n := 1) (fun us hl => match us, hl with | [_], _ => rfl) rfl rfl) .nil)
  have F_13 : L2.FunD K "_law_draw" "_law_draw" (L2.defArgs s__law_draw) (L2.defBody s__law_draw) (L2.defScope s__law_draw) [] [] f_13 (PySem.W.fnOf "_law_draw" "_law_draw" (L2.defArgs s__law_draw) (L2.defBody s__law_draw) (L2.defScope s__law_draw) .none kV_13 dc_13 pm_13 an_13 cd_13 ct_13) := ⟨⟨_, _, _, _, _, _, _, _, _, _, rfl, l_13, c_13, (.inl ⟨rfl, rfl⟩), .inl rfl⟩, k_13⟩
  have R_13 : RowAt K mg tab fis blt cons fn__law_draw fi__law_draw f_13 (PySem.W.fnOf "_law_draw" "_law_draw" (L2.defArgs s__law_draw) (L2.defBody s__law_draw) (L2.defScope s__law_draw) .none kV_13 dc_13 pm_13 an_13 cd_13 ct_13) ps__law_draw := row_mk F_13 sc__law_draw tr__law_draw rfl rfl (by decide) (by decide) (by decide) (PySem.W.mg_of X G a_13) (.cons (sh_all (ps := ps__law_draw) (n := 2) (fun us hl => match us, hl with | [_, _], _ => rfl) rfl rfl) .nil)
  have F_14 : L2.FunD K "_law_one" "_law_one" (L2.defArgs s__law_one) (L2.defBody s__law_one) (L2.defScope s__law_one) [] [] f_14 (PySem.W.fnOf "_law_one" "_law_one" (L2.defArgs s__law_one) (L2.defBody s__law_one) (L2.defScope s__law_one) .none kV_14 dc_14 pm_14 an_14 cd_14 ct_14) := ⟨⟨_, _, _, _, _, _, _, _, _, _, rfl, l_14, c_14, (.inl ⟨rfl, rfl⟩), .inl rfl⟩, k_14⟩
  have R_14 : RowAt K mg tab fis blt cons fn__law_one fi__law_one f_14 (PySem.W.fnOf "_law_one" "_law_one" (L2.defArgs s__law_one) (L2.defBody s__law_one) (L2.defScope s__law_one) .none kV_14 dc_14 pm_14 an_14 cd_14 ct_14) ps__law_one := row_mk F_14 sc__law_one tr__law_one rfl rfl (by decide) (by decide) (by decide) (PySem.W.mg_of X G a_14) (.cons (sh_all (ps := ps__law_one) (n := 2) (fun us hl => match us, hl with | [_, _], _ => rfl) rfl rfl) .nil)
  have F_15 : L2.FunD K "_law_pair" "_law_pair" (L2.defArgs s__law_pair) (L2.defBody s__law_pair) (L2.defScope s__law_pair) [] [] f_15 (PySem.W.fnOf "_law_pair" "_law_pair" (L2.defArgs s__law_pair) (L2.defBody s__law_pair) (L2.defScope s__law_pair) .none kV_15 dc_15 pm_15 an_15 cd_15 ct_15) := ⟨⟨_, _, _, _, _, _, _, _, _, _, rfl, l_15, c_15, (.inl ⟨rfl, rfl⟩), .inl rfl⟩, k_15⟩
  have R_15 : RowAt K mg tab fis blt cons fn__law_pair fi__law_pair f_15 (PySem.W.fnOf "_law_pair" "_law_pair" (L2.defArgs s__law_pair) (L2.defBody s__law_pair) (L2.defScope s__law_pair) .none kV_15 dc_15 pm_15 an_15 cd_15 ct_15) ps__law_pair := row_mk F_15 sc__law_pair tr__law_pair rfl rfl (by decide) (by decide) (by decide) (PySem.W.mg_of X G a_15) (.cons (sh_all (ps := ps__law_pair) (n := 2) (fun us hl => match us, hl with | [_, _], _ => rfl) rfl rfl) .nil)
  have F_16 : L2.FunD K "_law_lead" "_law_lead" (L2.defArgs s__law_lead) (L2.defBody s__law_lead) (L2.defScope s__law_lead) [] [] f_16 (PySem.W.fnOf "_law_lead" "_law_lead" (L2.defArgs s__law_lead) (L2.defBody s__law_lead) (L2.defScope s__law_lead) .none kV_16 dc_16 pm_16 an_16 cd_16 ct_16) := ⟨⟨_, _, _, _, _, _, _, _, _, _, rfl, l_16, c_16, (.inl ⟨rfl, rfl⟩), .inl rfl⟩, k_16⟩
  have R_16 : RowAt K mg tab fis blt cons fn__law_lead fi__law_lead f_16 (PySem.W.fnOf "_law_lead" "_law_lead" (L2.defArgs s__law_lead) (L2.defBody s__law_lead) (L2.defScope s__law_lead) .none kV_16 dc_16 pm_16 an_16 cd_16 ct_16) ps__law_lead := row_mk F_16 sc__law_lead tr__law_lead rfl rfl (by decide) (by decide) (by decide) (PySem.W.mg_of X G a_16) (.cons (sh_all (ps := ps__law_lead) (n := 2) (fun us hl => match us, hl with | [_, _], _ => rfl) rfl rfl) .nil)
  have F_17 : L2.FunD K "_law_is_pair" "_law_is_pair" (L2.defArgs s__law_is_pair) (L2.defBody s__law_is_pair) (L2.defScope s__law_is_pair) [] [] f_17 (PySem.W.fnOf "_law_is_pair" "_law_is_pair" (L2.defArgs s__law_is_pair) (L2.defBody s__law_is_pair) (L2.defScope s__law_is_pair) .none kV_17 dc_17 pm_17 an_17 cd_17 ct_17) := ⟨⟨_, _, _, _, _, _, _, _, _, _, rfl, l_17, c_17, (.inl ⟨rfl, rfl⟩), .inl rfl⟩, k_17⟩
  have R_17 : RowAt K mg tab fis blt cons fn__law_is_pair fi__law_is_pair f_17 (PySem.W.fnOf "_law_is_pair" "_law_is_pair" (L2.defArgs s__law_is_pair) (L2.defBody s__law_is_pair) (L2.defScope s__law_is_pair) .none kV_17 dc_17 pm_17 an_17 cd_17 ct_17) ps__law_is_pair := row_mk F_17 sc__law_is_pair tr__law_is_pair rfl rfl (by decide) (by decide) (by decide) (PySem.W.mg_of X G a_17) (.cons (sh_all (ps := ps__law_is_pair) (n := 1) (fun us hl => match us, hl with | [_], _ => rfl) rfl rfl) .nil)
  have F_18 : L2.FunD K "_law_then" "_law_then" (L2.defArgs s__law_then) (L2.defBody s__law_then) (L2.defScope s__law_then) [] [] f_18 (PySem.W.fnOf "_law_then" "_law_then" (L2.defArgs s__law_then) (L2.defBody s__law_then) (L2.defScope s__law_then) .none kV_18 dc_18 pm_18 an_18 cd_18 ct_18) := ⟨⟨_, _, _, _, _, _, _, _, _, _, rfl, l_18, c_18, (.inl ⟨rfl, rfl⟩), .inl rfl⟩, k_18⟩
  have R_18 : RowAt K mg tab fis blt cons fn__law_then fi__law_then f_18 (PySem.W.fnOf "_law_then" "_law_then" (L2.defArgs s__law_then) (L2.defBody s__law_then) (L2.defScope s__law_then) .none kV_18 dc_18 pm_18 an_18 cd_18 ct_18) ps__law_then := row_mk F_18 sc__law_then tr__law_then rfl rfl (by decide) (by decide) (by decide) (PySem.W.mg_of X G a_18) (.cons (sh_all (ps := ps__law_then) (n := 2) (fun us hl => match us, hl with | [_, _], _ => rfl) rfl rfl) .nil)
  have F_19 : L2.FunD K "_law_times" "_law_times" (L2.defArgs s__law_times) (L2.defBody s__law_times) (L2.defScope s__law_times) [] [] f_19 (PySem.W.fnOf "_law_times" "_law_times" (L2.defArgs s__law_times) (L2.defBody s__law_times) (L2.defScope s__law_times) .none kV_19 dc_19 pm_19 an_19 cd_19 ct_19) := ⟨⟨_, _, _, _, _, _, _, _, _, _, rfl, l_19, c_19, (.inl ⟨rfl, rfl⟩), .inl rfl⟩, k_19⟩
  have R_19 : RowAt K mg tab fis blt cons fn__law_times fi__law_times f_19 (PySem.W.fnOf "_law_times" "_law_times" (L2.defArgs s__law_times) (L2.defBody s__law_times) (L2.defScope s__law_times) .none kV_19 dc_19 pm_19 an_19 cd_19 ct_19) ps__law_times := row_mk F_19 sc__law_times tr__law_times rfl rfl (by decide) (by decide) (by decide) (PySem.W.mg_of X G a_19) (.cons (sh_all (ps := ps__law_times) (n := 2) (fun us hl => match us, hl with | [_, _], _ => rfl) rfl rfl) .nil)
  have F_20 : L2.FunD K "_law_right" "_law_right" (L2.defArgs s__law_right) (L2.defBody s__law_right) (L2.defScope s__law_right) [] [] f_20 (PySem.W.fnOf "_law_right" "_law_right" (L2.defArgs s__law_right) (L2.defBody s__law_right) (L2.defScope s__law_right) .none kV_20 dc_20 pm_20 an_20 cd_20 ct_20) := ⟨⟨_, _, _, _, _, _, _, _, _, _, rfl, l_20, c_20, (.inl ⟨rfl, rfl⟩), .inl rfl⟩, k_20⟩
  have R_20 : RowAt K mg tab fis blt cons fn__law_right fi__law_right f_20 (PySem.W.fnOf "_law_right" "_law_right" (L2.defArgs s__law_right) (L2.defBody s__law_right) (L2.defScope s__law_right) .none kV_20 dc_20 pm_20 an_20 cd_20 ct_20) ps__law_right := row_mk F_20 sc__law_right tr__law_right rfl rfl (by decide) (by decide) (by decide) (PySem.W.mg_of X G a_20) (.cons (sh_all (ps := ps__law_right) (n := 4) (fun us hl => match us, hl with | [_, _, _, _], _ => rfl) rfl rfl) .nil)
  have F_21 : L2.FunD K "_law_stands" "_law_stands" (L2.defArgs s__law_stands) (L2.defBody s__law_stands) (L2.defScope s__law_stands) [] [] f_21 (PySem.W.fnOf "_law_stands" "_law_stands" (L2.defArgs s__law_stands) (L2.defBody s__law_stands) (L2.defScope s__law_stands) .none kV_21 dc_21 pm_21 an_21 cd_21 ct_21) := ⟨⟨_, _, _, _, _, _, _, _, _, _, rfl, l_21, c_21, (.inl ⟨rfl, rfl⟩), .inl rfl⟩, k_21⟩
  have R_21 : RowAt K mg tab fis blt cons fn__law_stands fi__law_stands f_21 (PySem.W.fnOf "_law_stands" "_law_stands" (L2.defArgs s__law_stands) (L2.defBody s__law_stands) (L2.defScope s__law_stands) .none kV_21 dc_21 pm_21 an_21 cd_21 ct_21) ps__law_stands := row_mk F_21 sc__law_stands tr__law_stands rfl rfl (by decide) (by decide) (by decide) (PySem.W.mg_of X G a_21) (.cons (sh_all (ps := ps__law_stands) (n := 3) (fun us hl => match us, hl with | [_, _, _], _ => rfl) rfl rfl) .nil)
  have F_22 : L2.FunD K "law" "law" (L2.defArgs s_law) (L2.defBody s_law) (L2.defScope s_law) [] [] f_22 (PySem.W.fnOf "law" "law" (L2.defArgs s_law) (L2.defBody s_law) (L2.defScope s_law) .none kV_22 dc_22 pm_22 an_22 cd_22 ct_22) := ⟨⟨_, _, _, _, _, _, _, _, _, _, rfl, l_22, c_22, (.inl ⟨rfl, rfl⟩), .inl rfl⟩, k_22⟩
  have R_22 : RowAt K mg tab fis blt cons fn_law fi_law f_22 (PySem.W.fnOf "law" "law" (L2.defArgs s_law) (L2.defBody s_law) (L2.defScope s_law) .none kV_22 dc_22 pm_22 an_22 cd_22 ct_22) ps_law := row_mk F_22 sc_law tr_law rfl rfl (by decide) (by decide) (by decide) (PySem.W.mg_of X G a_22) .nil
  have hb : ∀ b ∈ blt, mg b = none := by
    intro b hb
    simp only [blt, List.mem_cons, List.not_mem_nil, or_false] at hb
    rcases hb with rfl | rfl | rfl | rfl | rfl | rfl | rfl | rfl
    · exact PySem.W.mg_none_of X G z_0
    · exact PySem.W.mg_none_of X G z_1
    · exact PySem.W.mg_none_of X G z_2
    · exact PySem.W.mg_none_of X G z_3
    · exact PySem.W.mg_none_of X G z_4
    · exact PySem.W.mg_none_of X G z_5
    · exact PySem.W.mg_none_of X G z_6
    · exact PySem.W.mg_none_of X G z_7
  have rows : ∀ f fn fi, tab f = some fn → fis[f]? = some fi → ∃ adr fd ps, RowAt K mg tab fis blt cons fn fi adr fd ps := by
    intro f fn fi h1 h2
    match f, h1, h2 with
    | 0, h1, h2 => cases h1; cases h2; exact ⟨_, _, _, R_0⟩
    | 1, h1, h2 => cases h1; cases h2; exact ⟨_, _, _, R_1⟩
    | 2, h1, h2 => cases h1; cases h2; exact ⟨_, _, _, R_2⟩
    | 3, h1, h2 => cases h1; cases h2; exact ⟨_, _, _, R_3⟩
    | 4, h1, h2 => cases h1; cases h2; exact ⟨_, _, _, R_4⟩
    | 5, h1, h2 => cases h1; cases h2; exact ⟨_, _, _, R_5⟩
    | 6, h1, h2 => cases h1; cases h2; exact ⟨_, _, _, R_6⟩
    | 7, h1, h2 => cases h1; cases h2; exact ⟨_, _, _, R_7⟩
    | 8, h1, h2 => cases h1; cases h2; exact ⟨_, _, _, R_8⟩
    | 9, h1, h2 => cases h1; cases h2; exact ⟨_, _, _, R_9⟩
    | 10, h1, h2 => cases h1; cases h2; exact ⟨_, _, _, R_10⟩
    | 11, h1, h2 => cases h1; cases h2; exact ⟨_, _, _, R_11⟩
    | 12, h1, h2 => cases h1; cases h2; exact ⟨_, _, _, R_12⟩
    | 13, h1, h2 => cases h1; cases h2; exact ⟨_, _, _, R_13⟩
    | 14, h1, h2 => cases h1; cases h2; exact ⟨_, _, _, R_14⟩
    | 15, h1, h2 => cases h1; cases h2; exact ⟨_, _, _, R_15⟩
    | 16, h1, h2 => cases h1; cases h2; exact ⟨_, _, _, R_16⟩
    | 17, h1, h2 => cases h1; cases h2; exact ⟨_, _, _, R_17⟩
    | 18, h1, h2 => cases h1; cases h2; exact ⟨_, _, _, R_18⟩
    | 19, h1, h2 => cases h1; cases h2; exact ⟨_, _, _, R_19⟩
    | 20, h1, h2 => cases h1; cases h2; exact ⟨_, _, _, R_20⟩
    | 21, h1, h2 => cases h1; cases h2; exact ⟨_, _, _, R_21⟩
    | 22, h1, h2 => cases h1; cases h2; exact ⟨_, _, _, R_22⟩
    | _ + 23, h1, h2 => cases h1
  refine ⟨_, fun s u => F_22.bindsA (ps := ps_law) (fun kV doc pm an cdv ct us hl => match us, hl with | [_], _ => rfl) s [u] rfl, fun base _ _ => ?_⟩
  exact rows_ok rows hb (fun p hp => by cases hp) n F_law fn_law fi_law _ _ _ rfl R_22
end Law

set_option Elab.async false
set_option linter.all false
set_option maxRecDepth 100000
set_option maxHeartbeats 4000000
namespace Law
open PySem Pv
local macro_rules | `(tactic| walk_at "ev") => `(tactic| simp [runFn, enter, exes, exe, ev, evs, evo, evc, evT, Pv.settle, peek, getF, setMany, arrange, argsD, lent, giveBack, outs, atI, ixN])
local macro_rules | `(tactic| walk_at "ev*") => `(tactic| simp [runFn, enter, exes, exe, ev, evs, evo, evc, evT, Pv.settle, peek, getF, setMany, arrange, argsD, lent, giveBack, outs, atI, ixN, *])
variable {fu n : Nat}
/-! ### wells -/
def Well (w : List D) (c : Int) : Prop := ∃ a b k : Int, w = [.int a, .int b, .int k] ∧ 0 ≤ b ∧ b < 2147483629 ∧ 0 ≤ k ∧ k ≤ c
theorem run_well (x : Int) : ∃ w, run tab fu (n + 1) F__law_well [.int x] = some (.own w, []) ∧ Well w 0 := by
  rw [run_succ]
  simp only [tab, Option.bind_some, fn__law_well, b__law_well]
  by_cases h : (10 : Int) ^ 18 ≤ x
  · refine ⟨[.int x, .int (x % 2147483629), .int 0], ?_, x, x % 2147483629, 0, rfl, Int.emod_nonneg _ (by decide), Int.emod_lt_of_pos _ (by decide), by decide, by decide⟩
    have h' : 1000000000000000000 ≤ x := by simpa using h
    clear h
    walk_at "ev*"
  · refine ⟨[.int 0, .int (x % 2147483629), .int 0], ?_, 0, x % 2147483629, 0, rfl, Int.emod_nonneg _ (by decide), Int.emod_lt_of_pos _ (by decide), by decide, by decide⟩
    have h' : ¬ 1000000000000000000 ≤ x := by simpa using h
    clear h
    walk_at "ev*"
def mix1 (b k : Int) : Int := (b + 7919 * (k + 1) + 1) ^ 5 % 2147483647
def mix2 (m k : Int) : Int := m * (m / 1009 + 69621 + (k + 1)) % 2147483629
def mix3 (m : Int) : Int := m * (m / 2003 + 40692) % 2147483399
theorem run_draw {w : List D} {c s : Int} (hw : Well w c) (hc : c < 1000000000) (hs : 0 < s) (hl : s.natAbs.log2 < 9000) : ∃ d w', run tab fu (n + 1) F__law_draw [.own w, .int s] = some (.int d, [w']) ∧ 0 ≤ d ∧ d < s ∧ Well w' (c + 1) := by
  obtain ⟨a, b, k, rfl, hb, hb2, hk, hkc⟩ := hw
  rw [run_succ]
  simp only [tab, Option.bind_some, fn__law_draw, b__law_draw]
  by_cases h : 0 < a
  · refine ⟨a % s, [.int (a / s), .int b, .int k], ?_, Int.emod_nonneg _ (by omega), Int.emod_lt_of_pos _ hs, _, _, _, rfl, hb, hb2, hk, by omega⟩
    walk_at "ev*"
  · have o1 : mulOk 7919 (k + 1) = true := by simp [mulOk]
    have o4 : (b + 7919 * (k + 1) + 1).natAbs < 2 ^ 64 := by omega
    have h0 : ¬ 0 < a := h
    have small : ∀ m x : Int, 0 ≤ m → m < 2147483647 → mulOk m x = true := fun m x h1 h2 => by
      have : -(2 ^ 64) < m ∧ m < 2 ^ 64 := by constructor <;> omega
      simp only [mulOk, this, decide_true, Bool.true_or, and_self]
    have l1 : (1009 : Nat).log2 < 9000 := by decide
    have l2 : (2003 : Nat).log2 < 9000 := by decide
    refine ⟨mix3 (mix2 (mix1 b k) k) % s, [.int a, .int b, .int (k + 1)], ?_, Int.emod_nonneg _ (by omega), Int.emod_lt_of_pos _ hs, _, _, _, rfl, hb, hb2, by omega, by omega⟩
    clear hb hb2 hk hkc hc h hl
    walk_at "ev*"
    rw [show (b + 7919 * (k + 1) + 1) ^ 5 % 2147483647 = mix1 b k from rfl]
    have hm1 : 0 ≤ mix1 b k := Int.emod_nonneg _ (by decide)
    have hm1' : mix1 b k < 2147483647 := Int.emod_lt_of_pos _ (by decide)
    generalize mix1 b k = m1 at *
    have o2 := small m1 (m1 / 1009 + 69621 + (k + 1)) hm1 hm1'
    walk_at "ev*"
    rw [show m1 * (m1 / 1009 + 69621 + (k + 1)) % 2147483629 = mix2 m1 k from rfl]
    have hm2 : 0 ≤ mix2 m1 k := Int.emod_nonneg _ (by decide)
    have hm2' : mix2 m1 k < 2147483629 := Int.emod_lt_of_pos _ (by decide)
    generalize mix2 m1 k = m2 at *
    have o3 := small m2 (m2 / 2003 + 40692) hm2 (by omega)
    walk_at "ev*"
    simp [mix3]
end Law

set_option Elab.async false
set_option linter.all false
set_option maxRecDepth 100000
set_option maxHeartbeats 4000000
namespace Law
open PySem Pv
local macro_rules | `(tactic| walk_at "ev") => `(tactic| simp [runFn, enter, exes, exe, ev, evs, evo, evc, evT, Pv.settle, peek, getF, setMany, arrange, argsD, lent, giveBack, outs, atI, ixN])
local macro_rules | `(tactic| walk_at "ev*") => `(tactic| simp [runFn, enter, exes, exe, ev, evs, evo, evc, evT, Pv.settle, peek, getF, setMany, arrange, argsD, lent, giveBack, outs, atI, ixN, *])
variable {fu n : Nat}
/-! ### pairs -/
structure Pr where
  f : Int
  s : Option Int
  deriving DecidableEq
def oD : Option Int → D
  | none => .non
  | some s => .int s
def Pr.d (p : Pr) : D := .tup [.int p.f, oD p.s]
def Pr.ok (p : Pr) : Prop := 0 ≤ p.f ∧ ∀ s, p.s = some s → s ≤ p.f
def lead (p : Pr) (c : Int) : Int := match p.s with
  | none => p.f
  | some s => max2 p.f (c + s)
def thenP (p q : Pr) : Pr := ⟨lead q p.f, match p.s, q.s with | some a, some b => some (a + b) | _, _ => none⟩
theorem lead_nn {p : Pr} (h : p.ok) (c : Int) : p.f ≤ lead p c := by
  unfold lead
  split
  · omega
  · unfold max2; split <;> omega
theorem then_ok {p q : Pr} (hp : p.ok) (hq : q.ok) : (thenP p q).ok := by
  refine ⟨Int.le_trans hq.1 (lead_nn hq _), fun s hs => ?_⟩
  unfold thenP at hs ⊢
  dsimp only at hs ⊢
  split at hs
  · next a b ha hb =>
    cases hs
    have h1 := hp.2 a ha
    unfold lead
    rw [hb]
    unfold max2
    dsimp only
    split <;> omega
  · cases hs
theorem lead_then {p q : Pr} (hq : q.ok) (c : Int) : lead (thenP p q) c = lead q (lead p c) := by
  obtain ⟨f, s⟩ := p
  obtain ⟨g, t⟩ := q
  cases s <;> cases t <;> simp [lead, thenP, max2]
  next a b => split <;> split <;> split <;> (try split) <;> omega
theorem then_assoc {p q r : Pr} (hr : r.ok) : thenP (thenP p q) r = thenP p (thenP q r) := by
  have h1 : (thenP (thenP p q) r).f = (thenP p (thenP q r)).f := by
    show lead r (lead q p.f) = lead (thenP q r) p.f
    rw [lead_then hr]
  have h2 : (thenP (thenP p q) r).s = (thenP p (thenP q r)).s := by
    obtain ⟨f, s⟩ := p
    obtain ⟨g, t⟩ := q
    obtain ⟨h, u⟩ := r
    cases s <;> cases t <;> cases u <;> simp [thenP, Int.add_assoc]
  cases hx : thenP (thenP p q) r
  cases hy : thenP p (thenP q r)
  rw [hx, hy] at h1 h2
  simp at h1 h2
  rw [h1, h2]
def p0 : Pr := ⟨0, some 0⟩
theorem then_p0 {p : Pr} (hp : p.ok) : thenP p0 p = p ∧ thenP p p0 = p := by
  obtain ⟨f, s⟩ := p
  have h1 := hp.1
  have h2 := hp.2
  dsimp only at h1 h2
  constructor
  · cases s <;> simp [thenP, p0, lead, max2]
    next a => have := h2 a rfl; omega
  · cases s <;> simp [thenP, p0, lead, max2] <;> omega

/-! ### equality of data -/
@[simp] theorem strip_pr (p : Pr) : strip p.d = p.d := rfl
theorem toPy_pair (p : Pr) : toPy 60 p.d = some (.tuple [.int p.f, match p.s with | none => .none | some s => .int s]) := by
  obtain ⟨f, s⟩ := p
  cases s <;> simp [Pr.d, oD, toPy, toPys]
theorem deq_pair (p q : Pr) : deq p.d q.d = some (decide (p = q)) := by
  unfold deq
  rw [toPy_pair, toPy_pair]
  obtain ⟨f, s⟩ := p
  obtain ⟨g, t⟩ := q
  cases s <;> cases t <;> simp [PyData.eqv, PyData.eqvAll, Bool.and_comm]
  all_goals (by_cases h1 : f = g <;> simp [h1])
  next a b => by_cases h2 : a = b <;> simp [h2]

/-! ### the program -/
theorem run_whole_i (i : Int) : run tab fu (n + 1) F_is_whole [.int i] = some (.bl true, []) := by
  rw [run_succ]; simp only [tab, Option.bind_some, fn_is_whole, b_is_whole]; walk_at "ev"
theorem run_whole_n : run tab fu (n + 1) F_is_whole [.non] = some (.bl false, []) := by
  rw [run_succ]; simp only [tab, Option.bind_some, fn_is_whole, b_is_whole]; walk_at "ev"
theorem run_count (i l : Int) : run tab fu (n + 2) F_is_count [.int i, .int l] = some (.bl (decide (l ≤ i)), []) := by
  have h := fun m => @run_whole_i fu m i
  rw [run_succ]; simp only [tab, Option.bind_some, fn_is_count, b_is_count]
  walk_at "ev*"
theorem run_is_pair {p : Pr} (hp : p.ok) : run tab fu (n + 3) F_is_pair [p.d] = some (.bl true, []) := by
  have h := fun m i => @run_whole_i fu m i
  have h2 := fun m i l => @run_count fu m i l
  obtain ⟨f, s⟩ := p
  have p1 : 0 ≤ f := hp.1
  have p2 := hp.2
  rw [run_succ]; simp only [tab, Option.bind_some, fn_is_pair, b_is_pair]
  cases s with
  | none => simp only [Pr.d, oD]; walk_at "ev*"
  | some a =>
    have p3 : a ≤ f := p2 a rfl
    clear p2 hp
    simp only [Pr.d, oD]; walk_at "ev*"
theorem run_check_pair {p : Pr} (hp : p.ok) : run tab fu (n + 4) F_check_pair [p.d] = some (.non, []) := by
  have h := fun m => @run_is_pair fu m p hp
  rw [run_succ]; simp only [tab, Option.bind_some, fn_check_pair, b_check_pair]
  clear hp
  walk_at "ev*"
theorem run_check_count {i : Int} (hi : 0 ≤ i) : run tab fu (n + 3) F_check_count [.int i, .int 0] = some (.non, []) := by
  have h := fun m i l => @run_count fu m i l
  rw [run_succ]; simp only [tab, Option.bind_some, fn_check_count, b_check_count]
  walk_at "ev*"
theorem run_led (p : Pr) (c : Int) : run tab fu (n + 1) F_led [p.d, .int c] = some (.int (lead p c), []) := by
  obtain ⟨f, s⟩ := p
  rw [run_succ]; simp only [tab, Option.bind_some, fn_led, b_led]
  cases s <;> simp only [Pr.d, oD, lead] <;> walk_at "ev"
theorem run_put_on {p : Pr} (hp : p.ok) {c : Int} (hc : 0 ≤ c) : run tab fu (n + 5) F_put_on [p.d, .int c] = some (.int (lead p c), []) := by
  have h1 := fun m => @run_check_pair fu m p hp
  have h2 := fun m => @run_check_count fu m c hc
  have h3 := fun m => @run_led fu m p c
  rw [run_succ]; simp only [tab, Option.bind_some, fn_put_on, b_put_on]
  clear hp hc
  walk_at "ev*"
theorem run_then (p q : Pr) : run tab fu (n + 2) F_then [p.d, q.d] = some ((thenP p q).d, []) := by
  have h3 := fun m => @run_led fu m q p.f
  rw [run_succ]; simp only [tab, Option.bind_some, fn_then, b_then]
  obtain ⟨f, s⟩ := p
  obtain ⟨g, t⟩ := q
  cases s <;> cases t <;> simp only [Pr.d, oD, thenP] at h3 ⊢ <;> walk_at "ev*"
theorem run_behind {p q : Pr} (hp : p.ok) (hq : q.ok) : run tab fu (n + 5) F_behind [p.d, q.d] = some ((thenP p q).d, []) := by
  have h1 := fun m => @run_check_pair fu m p hp
  have h2 := fun m => @run_check_pair fu m q hq
  have h3 := fun m => @run_then fu m p q
  rw [run_succ]; simp only [tab, Option.bind_some, fn_behind, b_behind]
  clear hp hq
  walk_at "ev*"
end Law

set_option Elab.async false
set_option linter.all false
set_option maxRecDepth 100000
set_option maxHeartbeats 4000000
namespace Law
open PySem Pv
local macro_rules | `(tactic| walk_at "ev") => `(tactic| simp [runFn, enter, exes, exe, ev, evs, evo, evc, evT, Pv.settle, peek, getF, setMany, arrange, argsD, lent, giveBack, outs, atI, ixN])
local macro_rules | `(tactic| walk_at "ev*") => `(tactic| simp [runFn, enter, exes, exe, ev, evs, evo, evc, evT, Pv.settle, peek, getF, setMany, arrange, argsD, lent, giveBack, outs, atI, ixN, *])
variable {fu n : Nat}
theorem run_lead (p : Pr) (c : Int) : run tab fu (n + 1) F__law_lead [p.d, .int c] = some (.int (lead p c), []) := by
  obtain ⟨f, s⟩ := p
  rw [run_succ]; simp only [tab, Option.bind_some, fn__law_lead, b__law_lead]
  cases s <;> simp only [Pr.d, oD, lead] <;> walk_at "ev"
theorem run_lis_pair {p : Pr} (hp : p.ok) : run tab fu (n + 1) F__law_is_pair [p.d] = some (.bl true, []) := by
  obtain ⟨f, s⟩ := p
  have p1 : 0 ≤ f := hp.1
  have p2 := hp.2
  rw [run_succ]; simp only [tab, Option.bind_some, fn__law_is_pair, b__law_is_pair]
  cases s with
  | none => simp only [Pr.d, oD]; clear hp p2; walk_at "ev*"; simp [forL]; walk_at "ev*"
  | some a =>
    have p3 : a ≤ f := p2 a rfl
    clear p2 hp
    simp only [Pr.d, oD]; walk_at "ev*"; simp [forL]; walk_at "ev*"

theorem run_one {w : List D} {c : Int} (hw : Well w c) (hc : c < 1000000000) {xs : List D} (hx : 0 < xs.length) (hx2 : xs.length < 1000) : ∃ d w', run tab fu (n + 2) F__law_one [.own w, .lst xs] = some (d, [w']) ∧ d ∈ xs ∧ Well w' (c + 1) := by
  have hl : ((xs.length : Int)).natAbs.log2 < 9000 := by
    have : ((xs.length : Int)).natAbs = xs.length := by simp
    rw [this]
    exact Nat.lt_of_le_of_lt (Nat.log2_le_self _) (by omega)
  obtain ⟨i, w', h1, h2, h3, h4⟩ := @run_draw fu n w c (xs.length : Int) hw hc (by omega) hl
  obtain ⟨k, rfl⟩ : ∃ k : Nat, i = k := ⟨i.toNat, by omega⟩
  have hk : k < xs.length := by omega
  refine ⟨xs[k], w', ?_, List.getElem_mem hk, h4⟩
  rw [run_succ]; simp only [tab, Option.bind_some, fn__law_one, b__law_one]
  clear hw hc hl h2 h3 h4
  simp [runFn, enter, exes, exe, ev, evs, evo, evc, evT, Pv.settle, peek, getF, setMany, arrange, argsD, lent, giveBack, outs, h1, atI_nat, hk]
theorem run_pair {w : List D} {c t : Int} (hw : Well w c) (hc : c < 100000000) (ht : 0 ≤ t) (hl : (t + 1).natAbs.log2 < 9000) : ∃ p w', run tab fu (n + 2) F__law_pair [.own w, .int t] = some (Pr.d p, [w']) ∧ p.ok ∧ p.f ≤ t ∧ (∀ s, p.s = some s → -t ≤ s) ∧ Well w' (c + 4) := by
  obtain ⟨d1, w1, h1, a1, b1, k1⟩ := @run_draw fu n w c (t + 1) hw (by omega) (by omega) hl
  obtain ⟨d2, w2, h2, a2, b2, k2⟩ := @run_draw fu n w1 (c + 1) (t + 1) k1 (by omega) (by omega) hl
  obtain ⟨d3, w3, h3, a3, b3, k3⟩ := @run_draw fu n w2 (c + 1 + 1) (t + 1) k2 (by omega) (by omega) hl
  obtain ⟨d4, w4, h4, a4, b4, k4⟩ := @run_draw fu n w3 (c + 1 + 1 + 1) 4 k3 (by omega) (by omega) (by decide)
  have hd : d4 = 0 ∨ d4 = 1 ∨ d4 = 2 ∨ d4 = 3 := by omega
  have k4' : Well w4 (c + 4) := by
    have e : c + 1 + 1 + 1 + 1 = c + 4 := by omega
    rw [← e]; exact k4
  refine ⟨⟨d1, if d4 = 0 then none else if d4 = 1 then some d1 else if d4 = 2 then some (0 - d2) else some (d1 - d3)⟩, w4, ?_, ⟨a1, fun s hs => ?_⟩, by show d1 ≤ t; omega, fun s hs => ?_, k4'⟩
  · rw [run_succ]; simp only [tab, Option.bind_some, fn__law_pair, b__law_pair]
    clear hw hc k1 k2 k3 k4 k4' a1 b1 a2 b2 a3 b3 a4 b4 ht hl
    walk_at "ev*"
    rcases hd with rfl | rfl | rfl | rfl <;> simp [Pr.d, oD] <;> walk_at "ev*"
  · dsimp only at hs ⊢
    rcases hd with rfl | rfl | rfl | rfl <;> simp at hs <;> omega
  · dsimp only at hs
    rcases hd with rfl | rfl | rfl | rfl <;> simp at hs <;> omega

/-! ### pairs behind one another -/
def leads (ps : List Pr) (c : Int) : Int := ps.foldl (fun a p => lead p a) c
def chain (ps : List Pr) : Pr := ps.foldl thenP p0
theorem p0_ok : p0.ok := ⟨by decide, fun s h => by cases h; decide⟩
theorem chain_snoc (ps : List Pr) (p : Pr) : chain (ps ++ [p]) = thenP (chain ps) p := by simp [chain]
theorem chain_ok : ∀ {ps : List Pr}, (∀ p ∈ ps, p.ok) → (chain ps).ok := by
  intro ps
  unfold chain
  suffices h : ∀ (ps : List Pr) (q : Pr), q.ok → (∀ p ∈ ps, p.ok) → (ps.foldl thenP q).ok from fun hp => h ps p0 p0_ok hp
  intro ps
  induction ps with
  | nil => intro q hq _; exact hq
  | cons p ps ih => intro q hq hp; exact ih _ (then_ok hq (hp p List.mem_cons_self)) fun r hr => hp r (List.mem_cons_of_mem _ hr)
theorem lead_chain {ps : List Pr} (hp : ∀ p ∈ ps, p.ok) {c : Int} (hc : 0 ≤ c) : lead (chain ps) c = leads ps c := by
  unfold chain leads
  suffices h : ∀ (ps : List Pr) (q : Pr), (∀ p ∈ ps, p.ok) → lead (ps.foldl thenP q) c = ps.foldl (fun a p => lead p a) (lead q c) by
    rw [h ps p0 hp]
    have : lead p0 c = c := by simp [lead, p0, max2]; omega
    rw [this]
  intro ps
  induction ps with
  | nil => intro q _; rfl
  | cons p ps ih =>
    intro q hp
    simp only [List.foldl_cons]
    rw [ih _ fun r hr => hp r (List.mem_cons_of_mem _ hr), lead_then (hp p List.mem_cons_self)]
end Law

set_option Elab.async false
set_option linter.all false
set_option maxRecDepth 100000
set_option maxHeartbeats 4000000
namespace Law
open PySem Pv
local macro_rules | `(tactic| walk_at "ev") => `(tactic| simp [runFn, enter, exes, exe, ev, evs, evo, evc, evT, Pv.settle, peek, getF, setMany, arrange, argsD, lent, giveBack, outs, atI, ixN])
local macro_rules | `(tactic| walk_at "ev*") => `(tactic| simp [runFn, enter, exes, exe, ev, evs, evo, evc, evT, Pv.settle, peek, getF, setMany, arrange, argsD, lent, giveBack, outs, atI, ixN, *])
local macro_rules | `(tactic| walk_at "ew") => `(tactic| simp [e_var, e_con, e_op, e_slc, e_tup, e_lst, e_ite, andK_t, andK_f, orK_t, orK_f, notK_b, e_and, e_or, e_not, chK_f, chK_t, chK2_b, e_chain, e_call, e_comp, o_nil, o_var, o_con, c_con, t_con, r_con, o_op, c_op, t_op, r_op, o_slc, c_slc, t_slc, r_slc, o_tup, c_tup, t_tup, r_tup, o_lst, c_lst, t_lst, r_lst, o_ite, c_ite, t_ite, r_ite, o_and, c_and, t_and, r_and, o_or, c_or, t_or, r_or, o_not, c_not, t_not, r_not, o_chain, c_chain, t_chain, r_chain, o_call, c_call, t_call, r_call, o_comp, c_comp, t_comp, r_comp, c_nil, c_var, c_lend, s_nil, s_cons, t_yes, t_nt, t_ad, t_ro, t_var, x_asg, x_par, augK_i, x_aug, x_put, appK_l, x_app, x_expr, x_retv, x_retn, x_ite, x_loop, x_whl, x_pass, x_brk, x_cnt, x_never, seqK_nx, seqK_rt, seqK_bk, seqK_ct, xs_nil, xs_cons, endK_rt, endK_nx, run_fn, enter, Pv.settle, peek, getF, setMany, arrange, argsD, lent, giveBack, outs, putK, appK2, retV, LB, CB, -pMul_int])
local macro_rules | `(tactic| walk_at "ew*") => `(tactic| simp [e_var, e_con, e_op, e_slc, e_tup, e_lst, e_ite, andK_t, andK_f, orK_t, orK_f, notK_b, e_and, e_or, e_not, chK_f, chK_t, chK2_b, e_chain, e_call, e_comp, o_nil, o_var, o_con, c_con, t_con, r_con, o_op, c_op, t_op, r_op, o_slc, c_slc, t_slc, r_slc, o_tup, c_tup, t_tup, r_tup, o_lst, c_lst, t_lst, r_lst, o_ite, c_ite, t_ite, r_ite, o_and, c_and, t_and, r_and, o_or, c_or, t_or, r_or, o_not, c_not, t_not, r_not, o_chain, c_chain, t_chain, r_chain, o_call, c_call, t_call, r_call, o_comp, c_comp, t_comp, r_comp, c_nil, c_var, c_lend, s_nil, s_cons, t_yes, t_nt, t_ad, t_ro, t_var, x_asg, x_par, augK_i, x_aug, x_put, appK_l, x_app, x_expr, x_retv, x_retn, x_ite, x_loop, x_whl, x_pass, x_brk, x_cnt, x_never, seqK_nx, seqK_rt, seqK_bk, seqK_ct, xs_nil, xs_cons, endK_rt, endK_nx, run_fn, enter, Pv.settle, peek, getF, setMany, arrange, argsD, lent, giveBack, outs, putK, appK2, retV, LB, CB, -pMul_int, *])
local macro_rules | `(tactic| walk_at "sm") => `(tactic| simp [-pMul_int, e_var, e_con, e_op, e_slc, e_tup, e_lst, e_ite, andK_t, andK_f, orK_t, orK_f, notK_b, e_and, e_or, e_not, chK_f, chK_t, chK2_b, e_chain, e_call, e_comp, o_nil, o_var, o_con, c_con, t_con, r_con, o_op, c_op, t_op, r_op, o_slc, c_slc, t_slc, r_slc, o_tup, c_tup, t_tup, r_tup, o_lst, c_lst, t_lst, r_lst, o_ite, c_ite, t_ite, r_ite, o_and, c_and, t_and, r_and, o_or, c_or, t_or, r_or, o_not, c_not, t_not, r_not, o_chain, c_chain, t_chain, r_chain, o_call, c_call, t_call, r_call, o_comp, c_comp, t_comp, r_comp, c_nil, c_var, c_lend, s_nil, s_cons, t_yes, t_nt, t_ad, t_ro, t_var, x_asg, x_par, augK_i, x_aug, x_put, appK_l, x_app, x_expr, x_retv, x_retn, x_ite, x_loop, x_whl, x_pass, x_brk, x_cnt, x_never, xs_nil, endK_rt, endK_nx, enter, Pv.settle, peek, getF, setMany, arrange, argsD, lent, giveBack, outs, putK, appK2, retV, Som_some, Som_none, Som_bind, Som_map, Som_ite, seqB_nil, seqB_rt, seqB_bk, seqB_ct, LQ_nx, LQ_ct, LQ_bk, LQ_rt, unown, restore, wipeE])
local macro_rules | `(tactic| walk_at "sm*") => `(tactic| simp [-pMul_int, e_var, e_con, e_op, e_slc, e_tup, e_lst, e_ite, andK_t, andK_f, orK_t, orK_f, notK_b, e_and, e_or, e_not, chK_f, chK_t, chK2_b, e_chain, e_call, e_comp, o_nil, o_var, o_con, c_con, t_con, r_con, o_op, c_op, t_op, r_op, o_slc, c_slc, t_slc, r_slc, o_tup, c_tup, t_tup, r_tup, o_lst, c_lst, t_lst, r_lst, o_ite, c_ite, t_ite, r_ite, o_and, c_and, t_and, r_and, o_or, c_or, t_or, r_or, o_not, c_not, t_not, r_not, o_chain, c_chain, t_chain, r_chain, o_call, c_call, t_call, r_call, o_comp, c_comp, t_comp, r_comp, c_nil, c_var, c_lend, s_nil, s_cons, t_yes, t_nt, t_ad, t_ro, t_var, x_asg, x_par, augK_i, x_aug, x_put, appK_l, x_app, x_expr, x_retv, x_retn, x_ite, x_loop, x_whl, x_pass, x_brk, x_cnt, x_never, xs_nil, endK_rt, endK_nx, enter, Pv.settle, peek, getF, setMany, arrange, argsD, lent, giveBack, outs, putK, appK2, retV, Som_some, Som_none, Som_bind, Som_map, Som_ite, seqB_nil, seqB_rt, seqB_bk, seqB_ct, LQ_nx, LQ_ct, LQ_bk, LQ_rt, unown, restore, wipeE, *])
local macro_rules | `(tactic| walk_at "st") => `(tactic| ((first | refine som_nc ?_ | refine som_cons ?_); walk_at "sm"))
local macro_rules | `(tactic| walk_at "st*") => `(tactic| ((first | refine som_nc ?_ | refine som_cons ?_); walk_at "sm*"))
local macro_rules | `(tactic| walk_at "go") => `(tactic| repeat (walk_at "st"))
local macro_rules | `(tactic| walk_at "go*") => `(tactic| repeat (walk_at "st*"))
variable {fu n : Nat}
@[simp] theorem strip_oD (o : Option Int) : strip (oD o) = oD o := by cases o <;> rfl
@[simp] theorem isNon_oD (o : Option Int) : isNon (oD o) = o.isNone := by cases o <;> rfl
@[simp] theorem idx0_pr (p : Pr) : pIdx p.d (.int 0) = some (.int p.f) := rfl
@[simp] theorem idx1_pr (p : Pr) : pIdx p.d (.int 1) = some (oD p.s) := rfl
@[simp] theorem oD_some (h : Int) : oD (some h) = .int h := rfl
@[simp] theorem oD_none : oD none = .non := rfl
@[simp] theorem isNon_pr (p : Pr) : isNon p.d = false := rfl
theorem log_ok {x : Int} (h0 : 0 < x) (h : x < 10 ^ 60) : x.natAbs.log2 < 9000 := by
  have h1 : x.natAbs < 2 ^ 9000 := by
    have : (10 : Int) ^ 60 < 2 ^ 9000 := by decide +kernel
    omega
  exact (Nat.log2_lt (by omega)).2 h1
theorem log_le {x : Int} (h0 : -(10 ^ 60) < x) (h : x < 10 ^ 60) : x.natAbs.log2 < 9000 := by
  by_cases hx : x = 0
  · subst hx; decide
  have h1 : x.natAbs < 2 ^ 9000 := by
    have : (10 : Int) ^ 60 < 2 ^ 9000 := by decide +kernel
    omega
  exact (Nat.log2_lt (by omega)).2 h1
theorem mul_ok {x y : Int} (h0 : -(10 ^ 60) < x) (h : x < 10 ^ 60) (h1 : -(10 ^ 60) < y) (h2 : y < 10 ^ 60) : mulOk x y = true := by
  have := log_le h0 h
  have := log_le h1 h2
  simp only [mulOk, Bool.or_eq_true, decide_eq_true_eq]
  exact .inr (by omega)
theorem mul_is {x y : Int} (h : mulOk x y = true) : pMul (.int x) (.int y) = some (.int (x * y)) := by rw [pMul_int, if_pos h]
/-- what a run of draws tells -/
def DrawOk (R : Rn) : Prop := ∀ (w : List D) (c s : Int), Well w c → c < 1000000000 → 0 < s → s.natAbs.log2 < 9000 → ∃ d w', R F__law_draw [.own w, .int s] = some (.int d, [w']) ∧ 0 ≤ d ∧ d < s ∧ Well w' (c + 1)
theorem drawOk : DrawOk (run tab fu (n + 1)) := fun w c s hw hc hs hl => run_draw hw hc hs hl
def OneOk (R : Rn) : Prop := ∀ (w : List D) (c : Int) (xs : List D), Well w c → c < 1000000000 → 0 < xs.length → xs.length < 1000 → ∃ d w', R F__law_one [.own w, .lst xs] = some (d, [w']) ∧ d ∈ xs ∧ Well w' (c + 1)
theorem oneOk : OneOk (run tab fu (n + 2)) := fun w c xs hw hc h1 h2 => run_one hw hc h1 h2
theorem DrawOk.som {R : Rn} (H : DrawOk R) {w : List D} {c s : Int} {Q : D × List (List D) → Prop} (hw : Well w c) (hc : c < 1000000000) (hs : 0 < s) (hl : s.natAbs.log2 < 9000) (h : ∀ d w', 0 ≤ d → d < s → Well w' (c + 1) → Q (.int d, [w'])) : Som (R F__law_draw [.own w, .int s]) Q := by
  obtain ⟨d, w', h1, h2, h3, h4⟩ := H w c s hw hc hs hl
  exact ⟨_, h1, h d w' h2 h3 h4⟩
theorem OneOk.som {R : Rn} (H : OneOk R) {w : List D} {c : Int} {xs : List D} {Q : D × List (List D) → Prop} (hw : Well w c) (hc : c < 1000000000) (hx : 0 < xs.length) (hx2 : xs.length < 1000) (h : ∀ d w', d ∈ xs → Well w' (c + 1) → Q (d, [w'])) : Som (R F__law_one [.own w, .lst xs]) Q := by
  obtain ⟨d, w', h1, h2, h3⟩ := H w c xs hw hc hx hx2
  exact ⟨_, h1, h d w' h2 h3⟩
theorem Well.le {w : List D} {c d : Int} (h : Well w c) (hcd : c ≤ d) : Well w d := by
  obtain ⟨a, b, k, h1, h2, h3, h4, h5⟩ := h
  exact ⟨a, b, k, h1, h2, h3, h4, by omega⟩
theorem run_cell (ns : List Int) : ∃ c, run tab fu (n + 1) F__law_cell_at [.rol (ns.map D.int), .int 0] = some (.int c, []) := by
  rw [run_succ]; simp only [tab, Option.bind_some, fn__law_cell_at, b__law_cell_at]
  cases ns with
  | nil => exact ⟨0, by walk_at "ew"⟩
  | cons x xs => exact ⟨x, by walk_at "ew"⟩
end Law

set_option Elab.async false
set_option linter.all false
set_option maxRecDepth 100000
set_option maxHeartbeats 4000000
namespace Law
open PySem Pv
local macro_rules | `(tactic| walk_at "ev") => `(tactic| simp [runFn, enter, exes, exe, ev, evs, evo, evc, evT, Pv.settle, peek, getF, setMany, arrange, argsD, lent, giveBack, outs, atI, ixN])
local macro_rules | `(tactic| walk_at "ev*") => `(tactic| simp [runFn, enter, exes, exe, ev, evs, evo, evc, evT, Pv.settle, peek, getF, setMany, arrange, argsD, lent, giveBack, outs, atI, ixN, *])
local macro_rules | `(tactic| walk_at "ew") => `(tactic| simp [e_var, e_con, e_op, e_slc, e_tup, e_lst, e_ite, andK_t, andK_f, orK_t, orK_f, notK_b, e_and, e_or, e_not, chK_f, chK_t, chK2_b, e_chain, e_call, e_comp, o_nil, o_var, o_con, c_con, t_con, r_con, o_op, c_op, t_op, r_op, o_slc, c_slc, t_slc, r_slc, o_tup, c_tup, t_tup, r_tup, o_lst, c_lst, t_lst, r_lst, o_ite, c_ite, t_ite, r_ite, o_and, c_and, t_and, r_and, o_or, c_or, t_or, r_or, o_not, c_not, t_not, r_not, o_chain, c_chain, t_chain, r_chain, o_call, c_call, t_call, r_call, o_comp, c_comp, t_comp, r_comp, c_nil, c_var, c_lend, s_nil, s_cons, t_yes, t_nt, t_ad, t_ro, t_var, x_asg, x_par, augK_i, x_aug, x_put, appK_l, x_app, x_expr, x_retv, x_retn, x_ite, x_loop, x_whl, x_pass, x_brk, x_cnt, x_never, seqK_nx, seqK_rt, seqK_bk, seqK_ct, xs_nil, xs_cons, endK_rt, endK_nx, run_fn, enter, Pv.settle, peek, getF, setMany, arrange, argsD, lent, giveBack, outs, putK, appK2, retV, LB, CB, -pMul_int])
local macro_rules | `(tactic| walk_at "ew*") => `(tactic| simp [e_var, e_con, e_op, e_slc, e_tup, e_lst, e_ite, andK_t, andK_f, orK_t, orK_f, notK_b, e_and, e_or, e_not, chK_f, chK_t, chK2_b, e_chain, e_call, e_comp, o_nil, o_var, o_con, c_con, t_con, r_con, o_op, c_op, t_op, r_op, o_slc, c_slc, t_slc, r_slc, o_tup, c_tup, t_tup, r_tup, o_lst, c_lst, t_lst, r_lst, o_ite, c_ite, t_ite, r_ite, o_and, c_and, t_and, r_and, o_or, c_or, t_or, r_or, o_not, c_not, t_not, r_not, o_chain, c_chain, t_chain, r_chain, o_call, c_call, t_call, r_call, o_comp, c_comp, t_comp, r_comp, c_nil, c_var, c_lend, s_nil, s_cons, t_yes, t_nt, t_ad, t_ro, t_var, x_asg, x_par, augK_i, x_aug, x_put, appK_l, x_app, x_expr, x_retv, x_retn, x_ite, x_loop, x_whl, x_pass, x_brk, x_cnt, x_never, seqK_nx, seqK_rt, seqK_bk, seqK_ct, xs_nil, xs_cons, endK_rt, endK_nx, run_fn, enter, Pv.settle, peek, getF, setMany, arrange, argsD, lent, giveBack, outs, putK, appK2, retV, LB, CB, -pMul_int, *])
local macro_rules | `(tactic| walk_at "sm") => `(tactic| simp [-pMul_int, e_var, e_con, e_op, e_slc, e_tup, e_lst, e_ite, andK_t, andK_f, orK_t, orK_f, notK_b, e_and, e_or, e_not, chK_f, chK_t, chK2_b, e_chain, e_call, e_comp, o_nil, o_var, o_con, c_con, t_con, r_con, o_op, c_op, t_op, r_op, o_slc, c_slc, t_slc, r_slc, o_tup, c_tup, t_tup, r_tup, o_lst, c_lst, t_lst, r_lst, o_ite, c_ite, t_ite, r_ite, o_and, c_and, t_and, r_and, o_or, c_or, t_or, r_or, o_not, c_not, t_not, r_not, o_chain, c_chain, t_chain, r_chain, o_call, c_call, t_call, r_call, o_comp, c_comp, t_comp, r_comp, c_nil, c_var, c_lend, s_nil, s_cons, t_yes, t_nt, t_ad, t_ro, t_var, x_asg, x_par, augK_i, x_aug, x_put, appK_l, x_app, x_expr, x_retv, x_retn, x_ite, x_loop, x_whl, x_pass, x_brk, x_cnt, x_never, xs_nil, endK_rt, endK_nx, enter, Pv.settle, peek, getF, setMany, arrange, argsD, lent, giveBack, outs, putK, appK2, retV, Som_some, Som_none, Som_bind, Som_map, Som_ite, seqB_nil, seqB_rt, seqB_bk, seqB_ct, LQ_nx, LQ_ct, LQ_bk, LQ_rt, unown, restore, wipeE])
local macro_rules | `(tactic| walk_at "sm*") => `(tactic| simp [-pMul_int, e_var, e_con, e_op, e_slc, e_tup, e_lst, e_ite, andK_t, andK_f, orK_t, orK_f, notK_b, e_and, e_or, e_not, chK_f, chK_t, chK2_b, e_chain, e_call, e_comp, o_nil, o_var, o_con, c_con, t_con, r_con, o_op, c_op, t_op, r_op, o_slc, c_slc, t_slc, r_slc, o_tup, c_tup, t_tup, r_tup, o_lst, c_lst, t_lst, r_lst, o_ite, c_ite, t_ite, r_ite, o_and, c_and, t_and, r_and, o_or, c_or, t_or, r_or, o_not, c_not, t_not, r_not, o_chain, c_chain, t_chain, r_chain, o_call, c_call, t_call, r_call, o_comp, c_comp, t_comp, r_comp, c_nil, c_var, c_lend, s_nil, s_cons, t_yes, t_nt, t_ad, t_ro, t_var, x_asg, x_par, augK_i, x_aug, x_put, appK_l, x_app, x_expr, x_retv, x_retn, x_ite, x_loop, x_whl, x_pass, x_brk, x_cnt, x_never, xs_nil, endK_rt, endK_nx, enter, Pv.settle, peek, getF, setMany, arrange, argsD, lent, giveBack, outs, putK, appK2, retV, Som_some, Som_none, Som_bind, Som_map, Som_ite, seqB_nil, seqB_rt, seqB_bk, seqB_ct, LQ_nx, LQ_ct, LQ_bk, LQ_rt, unown, restore, wipeE, *])
local macro_rules | `(tactic| walk_at "st") => `(tactic| ((first | refine som_nc ?_ | refine som_cons ?_); walk_at "sm"))
local macro_rules | `(tactic| walk_at "st*") => `(tactic| ((first | refine som_nc ?_ | refine som_cons ?_); walk_at "sm*"))
local macro_rules | `(tactic| walk_at "go") => `(tactic| repeat (walk_at "st"))
local macro_rules | `(tactic| walk_at "go*") => `(tactic| repeat (walk_at "st*"))
variable {fu n : Nat}
def PairOk (R : Rn) : Prop := ∀ (w : List D) (c t : Int), Well w c → c < 100000000 → 0 ≤ t → (t + 1).natAbs.log2 < 9000 → ∃ p w', R F__law_pair [.own w, .int t] = some (Pr.d p, [w']) ∧ p.ok ∧ p.f ≤ t ∧ (∀ s, p.s = some s → -t ≤ s) ∧ Well w' (c + 4)
theorem pairOk : PairOk (run tab fu (n + 2)) := fun w c t hw hc h1 h2 => run_pair hw hc h1 h2
theorem PairOk.som {R : Rn} (H : PairOk R) {w : List D} {c t : Int} {Q : D × List (List D) → Prop} (hw : Well w c) (hc : c < 100000000) (ht : 0 ≤ t) (hl : (t + 1).natAbs.log2 < 9000) (h : ∀ p w', Pr.ok p → p.f ≤ t → (∀ s, p.s = some s → -t ≤ s) → Well w' (c + 4) → Q (p.d, [w'])) : Som (R F__law_pair [.own w, .int t]) Q := by
  obtain ⟨p, w', h1, h2, h3, h4, h5⟩ := H w c t hw hc ht hl
  exact ⟨_, h1, h p w' h2 h3 h4 h5⟩
end Law

set_option Elab.async false
set_option linter.all false
set_option maxRecDepth 100000
set_option maxHeartbeats 4000000
namespace Law
open PySem Pv
local macro_rules | `(tactic| walk_at "ev") => `(tactic| simp [runFn, enter, exes, exe, ev, evs, evo, evc, evT, Pv.settle, peek, getF, setMany, arrange, argsD, lent, giveBack, outs, atI, ixN])
local macro_rules | `(tactic| walk_at "ev*") => `(tactic| simp [runFn, enter, exes, exe, ev, evs, evo, evc, evT, Pv.settle, peek, getF, setMany, arrange, argsD, lent, giveBack, outs, atI, ixN, *])
local macro_rules | `(tactic| walk_at "ew") => `(tactic| simp [e_var, e_con, e_op, e_slc, e_tup, e_lst, e_ite, andK_t, andK_f, orK_t, orK_f, notK_b, e_and, e_or, e_not, chK_f, chK_t, chK2_b, e_chain, e_call, e_comp, o_nil, o_var, o_con, c_con, t_con, r_con, o_op, c_op, t_op, r_op, o_slc, c_slc, t_slc, r_slc, o_tup, c_tup, t_tup, r_tup, o_lst, c_lst, t_lst, r_lst, o_ite, c_ite, t_ite, r_ite, o_and, c_and, t_and, r_and, o_or, c_or, t_or, r_or, o_not, c_not, t_not, r_not, o_chain, c_chain, t_chain, r_chain, o_call, c_call, t_call, r_call, o_comp, c_comp, t_comp, r_comp, c_nil, c_var, c_lend, s_nil, s_cons, t_yes, t_nt, t_ad, t_ro, t_var, x_asg, x_par, augK_i, x_aug, x_put, appK_l, x_app, x_expr, x_retv, x_retn, x_ite, x_loop, x_whl, x_pass, x_brk, x_cnt, x_never, seqK_nx, seqK_rt, seqK_bk, seqK_ct, xs_nil, xs_cons, endK_rt, endK_nx, run_fn, enter, Pv.settle, peek, getF, setMany, arrange, argsD, lent, giveBack, outs, putK, appK2, retV, LB, CB, -pMul_int])
local macro_rules | `(tactic| walk_at "ew*") => `(tactic| simp [e_var, e_con, e_op, e_slc, e_tup, e_lst, e_ite, andK_t, andK_f, orK_t, orK_f, notK_b, e_and, e_or, e_not, chK_f, chK_t, chK2_b, e_chain, e_call, e_comp, o_nil, o_var, o_con, c_con, t_con, r_con, o_op, c_op, t_op, r_op, o_slc, c_slc, t_slc, r_slc, o_tup, c_tup, t_tup, r_tup, o_lst, c_lst, t_lst, r_lst, o_ite, c_ite, t_ite, r_ite, o_and, c_and, t_and, r_and, o_or, c_or, t_or, r_or, o_not, c_not, t_not, r_not, o_chain, c_chain, t_chain, r_chain, o_call, c_call, t_call, r_call, o_comp, c_comp, t_comp, r_comp, c_nil, c_var, c_lend, s_nil, s_cons, t_yes, t_nt, t_ad, t_ro, t_var, x_asg, x_par, augK_i, x_aug, x_put, appK_l, x_app, x_expr, x_retv, x_retn, x_ite, x_loop, x_whl, x_pass, x_brk, x_cnt, x_never, seqK_nx, seqK_rt, seqK_bk, seqK_ct, xs_nil, xs_cons, endK_rt, endK_nx, run_fn, enter, Pv.settle, peek, getF, setMany, arrange, argsD, lent, giveBack, outs, putK, appK2, retV, LB, CB, -pMul_int, *])
local macro_rules | `(tactic| walk_at "sm") => `(tactic| simp [-pMul_int, e_var, e_con, e_op, e_slc, e_tup, e_lst, e_ite, andK_t, andK_f, orK_t, orK_f, notK_b, e_and, e_or, e_not, chK_f, chK_t, chK2_b, e_chain, e_call, e_comp, o_nil, o_var, o_con, c_con, t_con, r_con, o_op, c_op, t_op, r_op, o_slc, c_slc, t_slc, r_slc, o_tup, c_tup, t_tup, r_tup, o_lst, c_lst, t_lst, r_lst, o_ite, c_ite, t_ite, r_ite, o_and, c_and, t_and, r_and, o_or, c_or, t_or, r_or, o_not, c_not, t_not, r_not, o_chain, c_chain, t_chain, r_chain, o_call, c_call, t_call, r_call, o_comp, c_comp, t_comp, r_comp, c_nil, c_var, c_lend, s_nil, s_cons, t_yes, t_nt, t_ad, t_ro, t_var, x_asg, x_par, augK_i, x_aug, x_put, appK_l, x_app, x_expr, x_retv, x_retn, x_ite, x_loop, x_whl, x_pass, x_brk, x_cnt, x_never, xs_nil, endK_rt, endK_nx, enter, Pv.settle, peek, getF, setMany, arrange, argsD, lent, giveBack, outs, putK, appK2, retV, Som_some, Som_none, Som_bind, Som_map, Som_ite, seqB_nil, seqB_rt, seqB_bk, seqB_ct, LQ_nx, LQ_ct, LQ_bk, LQ_rt, unown, restore, wipeE, WC_is, WB_is])
local macro_rules | `(tactic| walk_at "sm*") => `(tactic| simp [-pMul_int, e_var, e_con, e_op, e_slc, e_tup, e_lst, e_ite, andK_t, andK_f, orK_t, orK_f, notK_b, e_and, e_or, e_not, chK_f, chK_t, chK2_b, e_chain, e_call, e_comp, o_nil, o_var, o_con, c_con, t_con, r_con, o_op, c_op, t_op, r_op, o_slc, c_slc, t_slc, r_slc, o_tup, c_tup, t_tup, r_tup, o_lst, c_lst, t_lst, r_lst, o_ite, c_ite, t_ite, r_ite, o_and, c_and, t_and, r_and, o_or, c_or, t_or, r_or, o_not, c_not, t_not, r_not, o_chain, c_chain, t_chain, r_chain, o_call, c_call, t_call, r_call, o_comp, c_comp, t_comp, r_comp, c_nil, c_var, c_lend, s_nil, s_cons, t_yes, t_nt, t_ad, t_ro, t_var, x_asg, x_par, augK_i, x_aug, x_put, appK_l, x_app, x_expr, x_retv, x_retn, x_ite, x_loop, x_whl, x_pass, x_brk, x_cnt, x_never, xs_nil, endK_rt, endK_nx, enter, Pv.settle, peek, getF, setMany, arrange, argsD, lent, giveBack, outs, putK, appK2, retV, Som_some, Som_none, Som_bind, Som_map, Som_ite, seqB_nil, seqB_rt, seqB_bk, seqB_ct, LQ_nx, LQ_ct, LQ_bk, LQ_rt, unown, restore, wipeE, WC_is, WB_is, *])
local macro_rules | `(tactic| walk_at "st") => `(tactic| ((first | refine som_nc ?_ | refine som_cons ?_); walk_at "sm"))
local macro_rules | `(tactic| walk_at "st*") => `(tactic| ((first | refine som_nc ?_ | refine som_cons ?_); walk_at "sm*"))
local macro_rules | `(tactic| walk_at "go") => `(tactic| repeat (walk_at "st"))
local macro_rules | `(tactic| walk_at "go*") => `(tactic| repeat (walk_at "st*"))
variable {fu n : Nat}
def nP (p : Pr) : Nat → Pr
  | 0 => p0
  | k + 1 => thenP (nP p k) p
theorem nP_ok {p : Pr} (hp : p.ok) : ∀ k, (nP p k).ok
  | 0 => p0_ok
  | k + 1 => then_ok (nP_ok hp k) hp
theorem nP_add {p : Pr} (hp : p.ok) (a : Nat) : ∀ b, nP p (a + b) = thenP (nP p a) (nP p b)
  | 0 => (then_p0 (nP_ok hp a)).2.symm
  | b + 1 => by rw [← Nat.add_assoc, nP, nP, nP_add hp a b, then_assoc hp]
theorem nP_one {p : Pr} (hp : p.ok) : nP p 1 = p := (then_p0 hp).1
theorem nP_mul {p : Pr} (hp : p.ok) (a : Nat) : ∀ b, nP (nP p a) b = nP p (a * b)
  | 0 => rfl
  | b + 1 => by rw [nP, nP_mul hp a b, Nat.mul_add, Nat.mul_one, nP_add hp]
theorem nP_two {p : Pr} (hp : p.ok) (k : Nat) : nP (thenP p p) k = nP p (2 * k) := by
  have : thenP p p = nP p 2 := by rw [show 2 = 1 + 1 from rfl, nP_add hp, nP_one hp]
  rw [this, nP_mul hp]
theorem lead_nP {p : Pr} (hp : p.ok) (k : Nat) (c : Int) : lead (nP p (k + 1)) c = lead p (lead (nP p k) c) := lead_then hp c
theorem lead_0 {c : Int} (hc : 0 ≤ c) (p : Pr) : lead (nP p 0) c = c := by simp [nP, lead, p0, max2]; omega
/-- told at once -/
theorem nP_closed {p : Pr} (hp : p.ok) (k : Nat) : nP p (k + 1) = match p.s with
    | none => p
    | some s => ⟨p.f + k * max2 0 s, some ((k + 1) * s)⟩ := by
  obtain ⟨f, s⟩ := p
  cases s with
  | none =>
    simp only
    induction k with
    | zero => exact nP_one hp
    | succ k ih => rw [nP, ih]; simp [thenP, lead]
  | some s =>
    simp only
    induction k with
    | zero => rw [nP_one hp]; simp
    | succ k ih =>
      rw [nP, ih]
      have h1 : ((k : Int) + 1 + 1) * s = (k + 1) * s + s := by rw [Int.add_mul (k + 1 : Int) 1 s, Int.one_mul]
      have h2 : ((k + 1 : Nat) : Int) * max2 0 s = k * max2 0 s + max2 0 s := by rw [Int.natCast_add, Int.add_mul]; simp
      simp only [thenP, lead, Pr.mk.injEq]
      refine ⟨?_, ?_⟩
      · rw [h2]
        have h3 : 0 ≤ (k : Int) * max2 0 s := Int.mul_nonneg (by omega) (by unfold max2; split <;> omega)
        by_cases hs : 0 ≤ s
        · have h4 : max2 0 s = s := by unfold max2; split <;> omega
          rw [h4] at h3 ⊢
          unfold max2; split <;> omega
        · have h4 : max2 0 s = 0 := by unfold max2; split <;> omega
          rw [h4]
          unfold max2; simp; omega
      · rw [Int.natCast_add]; simpa using h1.symm
def Sm (T : Int) (p : Pr) : Prop := p.f < T ∧ ∀ s, p.s = some s → -T < s ∧ s < T
theorem repeated_b {R : Rn} {f s : Int} {k : Int} (m1 : pMul (.int k) (.int (max2 0 s)) = some (.int (k * max2 0 s))) (m2 : pMul (.int (k+1)) (.int s) = some (.int ((k + 1) * s))) (h0 : ¬(k+1=0)) : exes tab R fu b_repeated [some (.tup [.int f, .int s]), some (.int (k+1)), none, none] = some (.rt (.tup [.int (f + k * max2 0 s), .int ((k + 1) * s)]), [some (.tup [.int f, .int s]), some (.int (k+1)), some (.int f), some (.int s)]) := by
  unfold b_repeated
  have e1 : k + 1 - 1 = k := by omega
  walk_at "ew*"
theorem repeated_n {R : Rn} {f : Int} {k : Int} (h0 : ¬(k+1=0)) : exes tab R fu b_repeated [some (.tup [.int f, .non]), some (.int (k+1)), none, none] = some (.rt (.tup [.int f, .non]), [some (.tup [.int f, .non]), some (.int (k+1)), some (.int f), some .non]) := by
  unfold b_repeated
  walk_at "ew*"
theorem repeated_z {R : Rn} {f : Int} {x : D} : exes tab R fu b_repeated [some (.tup [.int f, x]), some (.int 0), none, none] = some (.rt (.tup [.int 0, .int 0]), [some (.tup [.int f, x]), some (.int 0), some (.int f), some x]) := by
  unfold b_repeated
  walk_at "ew"
theorem run_repeated {p : Pr} (hp : p.ok) (hs : Sm (10 ^ 60) p) {m : Int} (hm : 0 ≤ m) (hm2 : m < 10 ^ 50) : run tab fu (n + 1) F_repeated [p.d, .int m] = some ((nP p m.toNat).d, []) := by
  obtain ⟨k, rfl⟩ : ∃ k : Nat, m = k := ⟨m.toNat, by omega⟩
  rw [Int.toNat_natCast]
  obtain ⟨f, s⟩ := p
  cases k with
  | zero => exact run_of rfl rfl repeated_z rfl
  | succ k =>
    rw [nP_closed hp]
    have h0 : ¬ ((k : Int) + 1 = 0) := by omega
    cases s with
    | none => exact run_of rfl rfl (repeated_n h0) rfl
    | some s =>
      obtain ⟨s1, s2⟩ := hs.2 s rfl
      have m1 := mul_is <| show mulOk (k : Int) (max2 0 s) = true from mul_ok (by omega) (by omega) (by unfold max2; split <;> omega) (by unfold max2; split <;> omega)
      have m2 := mul_is <| show mulOk ((k : Int) + 1) s = true from mul_ok (by omega) (by omega) (by omega) (by omega)
      exact run_of rfl rfl (repeated_b m1 m2 h0) rfl
theorem run_times {p : Pr} (hp : p.ok) (hs : Sm (10 ^ 60) p) {m : Int} (hm : 0 ≤ m) (hm2 : m < 10 ^ 50) : run tab fu (n + 5) F_times [p.d, .int m] = some ((nP p m.toNat).d, []) := by
  have h1 := @run_check_pair fu n p hp
  have h2 := @run_check_count fu (n + 1) m hm
  have h3 := @run_repeated fu (n + 3) p hp hs m hm hm2
  rw [run_succ]; simp only [tab, Option.bind_some, fn_times, b_times]
  simp only [Nat.add_assoc, Nat.reduceAdd] at h1 h2 h3 ⊢
  generalize run tab fu (n + 4) = R at *
  clear hp hs hm hm2
  walk_at "ew*"
theorem run_lthen (p q : Pr) : run tab fu (n + 2) F__law_then [p.d, q.d] = some ((thenP p q).d, []) := by
  have h3 := @run_lead fu n q p.f
  rw [run_succ]; simp only [tab, Option.bind_some, fn__law_then, b__law_then]
  generalize run tab fu (n + 1) = R at *
  obtain ⟨f, s⟩ := p
  obtain ⟨g, t⟩ := q
  cases s <;> cases t <;> simp only [Pr.d, oD, thenP] at h3 ⊢ <;> walk_at "ew*"
def TInv (p : Pr) (m j : Nat) (e : En) : Prop := ∃ (q r : Pr) (k : Nat), q.ok ∧ r.ok ∧ k < 2 ^ j ∧ thenP q (nP r k) = nP p m ∧ e = [some p.d, some (.int k), some q.d, some r.d]
theorem ltimes_b {R : Rn} {p : Pr} (hp : p.ok) {m : Nat} (hm : m < 2 ^ 64) (h1 : ∀ p q : Pr, R F__law_then [p.d, q.d] = some ((thenP p q).d, [])) : Som (exes tab R 1000 b__law_times [some p.d, some (.int m), none, none]) fun r => Som (endK r.1 r.2 []) fun r => r = ((nP p m).d, []) := by
  unfold b__law_times
  walk_at "go"
  refine som_whl (TInv p m) (n := 64) (by decide) ⟨p0, p, m, p0_ok, hp, hm, (then_p0 (nP_ok hp m)).1, rfl⟩ ?_
  rintro j e hj ⟨q, r, k, hq, hr, hk, he, rfl⟩
  walk_at "sm"
  by_cases hk0 : 0 < k
  · simp only [hk0, decide_true, if_true]
    have hkk : k / 2 < 2 ^ (j - 1) ∧ j - 1 < j := by
      cases j with
      | zero => simp at hk; omega
      | succ j => rw [Nat.pow_succ] at hk; simp; omega
    by_cases h2 : k % 2 = 1
    · have h2' : (k : Int) % 2 = 1 := by omega
      have e1 : thenP (thenP q r) (nP (thenP r r) (k / 2)) = nP p m := by
        rw [then_assoc (nP_ok (then_ok hr hr) _), nP_two hr, ← he]
        congr 1
        have : k = 1 + 2 * (k / 2) := by omega
        conv => rhs; rw [this, nP_add hr, nP_one hr]
      walk_at "go*"
      exact ⟨by decide, j - 1, by omega, thenP q r, thenP r r, k / 2, then_ok hq hr, then_ok hr hr, hkk.1, e1, by simp⟩
    · have h2' : ¬ (k : Int) % 2 = 1 := by omega
      have e1 : thenP q (nP (thenP r r) (k / 2)) = nP p m := by
        rw [nP_two hr, ← he]
        congr 2
        omega
      walk_at "go*"
      exact ⟨by decide, j - 1, by omega, q, thenP r r, k / 2, hq, then_ok hr hr, hkk.1, e1, by simp⟩
  · simp only [hk0, decide_false, Bool.false_eq_true, if_false]
    have : k = 0 := by omega
    subst this
    rw [nP, (then_p0 hq).2] at he
    subst he
    walk_at "go"
theorem run_ltimes {p : Pr} (hp : p.ok) {m : Int} (hm0 : 0 ≤ m) (hm : m < 2 ^ 64) : run tab 1000 (n + 3) F__law_times [p.d, .int m] = some ((nP p m.toNat).d, []) := by
  obtain ⟨k, rfl⟩ : ∃ k : Nat, m = k := ⟨m.toNat, by omega⟩
  exact (som_run rfl rfl (ltimes_b hp (by omega) fun p q => run_lthen p q)).eq
end Law

set_option Elab.async false
set_option linter.all false
set_option maxRecDepth 100000
set_option maxHeartbeats 4000000
namespace Law
open PySem Pv
local macro_rules | `(tactic| walk_at "ev") => `(tactic| simp [runFn, enter, exes, exe, ev, evs, evo, evc, evT, Pv.settle, peek, getF, setMany, arrange, argsD, lent, giveBack, outs, atI, ixN])
local macro_rules | `(tactic| walk_at "ev*") => `(tactic| simp [runFn, enter, exes, exe, ev, evs, evo, evc, evT, Pv.settle, peek, getF, setMany, arrange, argsD, lent, giveBack, outs, atI, ixN, *])
local macro_rules | `(tactic| walk_at "ew") => `(tactic| simp [e_var, e_con, e_op, e_slc, e_tup, e_lst, e_ite, andK_t, andK_f, orK_t, orK_f, notK_b, e_and, e_or, e_not, chK_f, chK_t, chK2_b, e_chain, e_call, e_comp, o_nil, o_var, o_con, c_con, t_con, r_con, o_op, c_op, t_op, r_op, o_slc, c_slc, t_slc, r_slc, o_tup, c_tup, t_tup, r_tup, o_lst, c_lst, t_lst, r_lst, o_ite, c_ite, t_ite, r_ite, o_and, c_and, t_and, r_and, o_or, c_or, t_or, r_or, o_not, c_not, t_not, r_not, o_chain, c_chain, t_chain, r_chain, o_call, c_call, t_call, r_call, o_comp, c_comp, t_comp, r_comp, c_nil, c_var, c_lend, s_nil, s_cons, t_yes, t_nt, t_ad, t_ro, t_var, x_asg, x_par, augK_i, x_aug, x_put, appK_l, x_app, x_expr, x_retv, x_retn, x_ite, x_loop, x_whl, x_pass, x_brk, x_cnt, x_never, seqK_nx, seqK_rt, seqK_bk, seqK_ct, xs_nil, xs_cons, endK_rt, endK_nx, run_fn, enter, Pv.settle, peek, getF, setMany, arrange, argsD, lent, giveBack, outs, putK, appK2, retV, LB, CB, -pMul_int])
local macro_rules | `(tactic| walk_at "ew*") => `(tactic| simp [e_var, e_con, e_op, e_slc, e_tup, e_lst, e_ite, andK_t, andK_f, orK_t, orK_f, notK_b, e_and, e_or, e_not, chK_f, chK_t, chK2_b, e_chain, e_call, e_comp, o_nil, o_var, o_con, c_con, t_con, r_con, o_op, c_op, t_op, r_op, o_slc, c_slc, t_slc, r_slc, o_tup, c_tup, t_tup, r_tup, o_lst, c_lst, t_lst, r_lst, o_ite, c_ite, t_ite, r_ite, o_and, c_and, t_and, r_and, o_or, c_or, t_or, r_or, o_not, c_not, t_not, r_not, o_chain, c_chain, t_chain, r_chain, o_call, c_call, t_call, r_call, o_comp, c_comp, t_comp, r_comp, c_nil, c_var, c_lend, s_nil, s_cons, t_yes, t_nt, t_ad, t_ro, t_var, x_asg, x_par, augK_i, x_aug, x_put, appK_l, x_app, x_expr, x_retv, x_retn, x_ite, x_loop, x_whl, x_pass, x_brk, x_cnt, x_never, seqK_nx, seqK_rt, seqK_bk, seqK_ct, xs_nil, xs_cons, endK_rt, endK_nx, run_fn, enter, Pv.settle, peek, getF, setMany, arrange, argsD, lent, giveBack, outs, putK, appK2, retV, LB, CB, -pMul_int, *])
local macro_rules | `(tactic| walk_at "sm") => `(tactic| simp [-pMul_int, e_var, e_con, e_op, e_slc, e_tup, e_lst, e_ite, andK_t, andK_f, orK_t, orK_f, notK_b, e_and, e_or, e_not, chK_f, chK_t, chK2_b, e_chain, e_call, e_comp, o_nil, o_var, o_con, c_con, t_con, r_con, o_op, c_op, t_op, r_op, o_slc, c_slc, t_slc, r_slc, o_tup, c_tup, t_tup, r_tup, o_lst, c_lst, t_lst, r_lst, o_ite, c_ite, t_ite, r_ite, o_and, c_and, t_and, r_and, o_or, c_or, t_or, r_or, o_not, c_not, t_not, r_not, o_chain, c_chain, t_chain, r_chain, o_call, c_call, t_call, r_call, o_comp, c_comp, t_comp, r_comp, c_nil, c_var, c_lend, s_nil, s_cons, t_yes, t_nt, t_ad, t_ro, t_var, x_asg, x_par, augK_i, x_aug, x_put, appK_l, x_app, x_expr, x_retv, x_retn, x_ite, x_loop, x_whl, x_pass, x_brk, x_cnt, x_never, xs_nil, endK_rt, endK_nx, enter, Pv.settle, peek, getF, setMany, arrange, argsD, lent, giveBack, outs, putK, appK2, retV, Som_some, Som_none, Som_bind, Som_map, Som_ite, seqB_nil, seqB_rt, seqB_bk, seqB_ct, LQ_nx, LQ_ct, LQ_bk, LQ_rt, unown, restore, wipeE, WC_is, WB_is])
local macro_rules | `(tactic| walk_at "sm*") => `(tactic| simp [-pMul_int, e_var, e_con, e_op, e_slc, e_tup, e_lst, e_ite, andK_t, andK_f, orK_t, orK_f, notK_b, e_and, e_or, e_not, chK_f, chK_t, chK2_b, e_chain, e_call, e_comp, o_nil, o_var, o_con, c_con, t_con, r_con, o_op, c_op, t_op, r_op, o_slc, c_slc, t_slc, r_slc, o_tup, c_tup, t_tup, r_tup, o_lst, c_lst, t_lst, r_lst, o_ite, c_ite, t_ite, r_ite, o_and, c_and, t_and, r_and, o_or, c_or, t_or, r_or, o_not, c_not, t_not, r_not, o_chain, c_chain, t_chain, r_chain, o_call, c_call, t_call, r_call, o_comp, c_comp, t_comp, r_comp, c_nil, c_var, c_lend, s_nil, s_cons, t_yes, t_nt, t_ad, t_ro, t_var, x_asg, x_par, augK_i, x_aug, x_put, appK_l, x_app, x_expr, x_retv, x_retn, x_ite, x_loop, x_whl, x_pass, x_brk, x_cnt, x_never, xs_nil, endK_rt, endK_nx, enter, Pv.settle, peek, getF, setMany, arrange, argsD, lent, giveBack, outs, putK, appK2, retV, Som_some, Som_none, Som_bind, Som_map, Som_ite, seqB_nil, seqB_rt, seqB_bk, seqB_ct, LQ_nx, LQ_ct, LQ_bk, LQ_rt, unown, restore, wipeE, WC_is, WB_is, *])
local macro_rules | `(tactic| walk_at "st") => `(tactic| ((first | refine som_nc ?_ | refine som_cons ?_); walk_at "sm"))
local macro_rules | `(tactic| walk_at "st*") => `(tactic| ((first | refine som_nc ?_ | refine som_cons ?_); walk_at "sm*"))
local macro_rules | `(tactic| walk_at "go") => `(tactic| repeat (walk_at "st"))
local macro_rules | `(tactic| walk_at "go*") => `(tactic| repeat (walk_at "st*"))
variable {fu n : Nat}
theorem mul_bound {k s K S : Int} (h0 : 0 ≤ k) (h1 : k ≤ K) (h2 : -S ≤ s) (h3 : s ≤ S) (hS : 0 ≤ S) : -(K * S) ≤ k * s ∧ k * s ≤ K * S := by
  have a1 := Int.mul_le_mul_of_nonneg_left h3 h0
  have a2 := Int.mul_le_mul_of_nonneg_right h1 hS
  have a3 := Int.mul_le_mul_of_nonneg_left h2 h0
  rw [Int.mul_neg] at a3
  omega
theorem nP_sm {p : Pr} (hp : p.ok) (hs : Sm (10 ^ 16) p) {a : Nat} (ha : a ≤ 10 ^ 12) : Sm (10 ^ 60) (nP p a) := by
  obtain ⟨f, s⟩ := p
  have p1 : 0 ≤ f := hp.1
  have p2 : f < 10 ^ 16 := hs.1
  cases a with
  | zero => exact ⟨show (0 : Int) < 10 ^ 60 by decide, fun s e => by cases e; decide⟩
  | succ a =>
    rw [nP_closed hp]
    cases s with
    | none => exact ⟨by show f < 10 ^ 60; omega, by simp⟩
    | some s =>
      obtain ⟨s1, s2⟩ := hs.2 s rfl
      have b1 := @mul_bound (a : Int) (max2 0 s) (10 ^ 12) (10 ^ 16) (by omega) (by omega) (by unfold max2; split <;> omega) (by unfold max2; split <;> omega) (by decide)
      have b2 := @mul_bound (a + 1 : Int) s (10 ^ 12) (10 ^ 16) (by omega) (by omega) (by omega) (by omega) (by decide)
      refine ⟨?_, fun t e => ?_⟩
      · show f + (a : Int) * max2 0 s < 10 ^ 60
        generalize (a : Int) * max2 0 s = z at *
        omega
      · have e' : ((a : Int) + 1) * s = t := by simpa using e
        rw [e'] at b2
        omega
theorem right_k {R : Rn} {p : Pr} {c held : Int} {k : Nat} (t1 : R F_times [p.d, .int k] = some ((nP p k).d, [])) (t2 : R F_put_on [(nP p k).d, .int held] = some (.int c, [])) (t3 : R F__law_lead [p.d, .int c] = some (.int (lead p c), [])) {a1 a2 a4 a6 : Option D} :
    LB tab R fu (.name 6) (.cons (.ite (.val (.op .ne (.cons (.call F_put_on 0 (.cons (.call F_times 0 (.cons (.var 0) (.cons (.var 6) .nil)) .nil) (.cons (.var 3) .nil)) .nil) (.cons (.var 5) .nil))))
    (.cons (.ret (.con (.bl false)))
    .nil)
    .nil)
    (.cons (.asg (.name 5) (.call F__law_lead 0 (.cons (.var 0) (.cons (.var 5) .nil)) .nil))
    .nil)) (.int k) [some p.d, a1, a2, some (.int held), a4, some (.int c), a6] = some (.nx, [some p.d, a1, a2, some (.int held), a4, some (.int (lead p c)), some (.int k)]) := by
  walk_at "ew*"
def KInv (p : Pr) (held : Int) (a1 a2 a4 : Option D) (k : Nat) (e : En) : Prop := ∃ a6, e = [some p.d, a1, a2, some (.int held), a4, some (.int (lead (nP p k) held)), a6]
theorem right_b {R : Rn} {p : Pr} {a b : Int} {held : Int} {pa pb pab pm : Pr}
    (t1 : R F_times [p.d, .int a] = some (pa.d, [])) (t2 : R F__law_is_pair [pa.d] = some (.bl true, [])) (t3 : R F__law_times [p.d, .int a] = some (pa.d, []))
    (t4 : R F_times [p.d, .int (a + b)] = some (pab.d, [])) (t5 : R F_times [p.d, .int b] = some (pb.d, [])) (t6 : R F_behind [pa.d, pb.d] = some (pab.d, []))
    (t7 : R F_times [pa.d, .int b] = some (pm.d, [])) (t8 : R F_times [p.d, .int (a * b)] = some (pm.d, [])) (t9 : pMul (.int a) (.int b) = some (.int (a * b)))
    (u1 : ∀ k : Nat, k < 7 → R F_times [p.d, .int k] = some ((nP p k).d, [])) (u2 : ∀ k : Nat, R F_put_on [(nP p k).d, .int held] = some (.int (lead (nP p k) held), [])) (u3 : ∀ c, R F__law_lead [p.d, .int c] = some (.int (lead p c), [])) (u4 : lead (nP p 0) held = held) (hp : p.ok) :
    Som (exes tab R fu b__law_right [some p.d, some (.int a), some (.int b), some (.int held), none, none, none]) fun r => Som (endK r.1 r.2 []) fun r => r = (.bl true, []) := by
  unfold b__law_right
  have d1 := deq_pair pa pa
  have d2 := deq_pair pab pab
  have d3 := deq_pair pm pm
  simp only [decide_true] at d1 d2 d3
  refine som_cons ?_
  walk_at "sm"
  rw [t1]
  walk_at "sm"
  refine som_nc ?_
  have e1 : exe tab R fu (.ite (.or (.not (.val (.call F__law_is_pair 0 (.cons (.var 4) .nil) .nil))) (.val (.op .ne (.cons (.var 4) (.cons (.call F__law_times 0 (.cons (.var 0) (.cons (.var 1) .nil)) .nil) .nil)))))
    (.cons (.ret (.con (.bl false)))
    .nil)
    .nil) [some p.d, some (.int a), some (.int b), some (.int held), some pa.d, none, none] = some (.nx, [some p.d, some (.int a), some (.int b), some (.int held), some pa.d, none, none]) := by
    clear u1 u2 u3 u4 t4 t5 t6 t7 t8 t9 hp
    walk_at "ew*"
  refine Som.of e1 (som_nc ?_)
  clear e1
  have e1 : exe tab R fu (.ite (.val (.op .ne (.cons (.call F_times 0 (.cons (.var 0) (.cons (.op .add (.cons (.var 1) (.cons (.var 2) .nil))) .nil)) .nil) (.cons (.call F_behind 0 (.cons (.var 4) (.cons (.call F_times 0 (.cons (.var 0) (.cons (.var 2) .nil)) .nil) .nil)) .nil) .nil))))
    (.cons (.ret (.con (.bl false)))
    .nil)
    .nil) [some p.d, some (.int a), some (.int b), some (.int held), some pa.d, none, none] = some (.nx, [some p.d, some (.int a), some (.int b), some (.int held), some pa.d, none, none]) := by
    clear u1 u2 u3 u4 t7 t8 t9 hp
    walk_at "ew*"
  refine Som.of e1 (som_nc ?_)
  clear e1
  have e1 : exe tab R fu (.ite (.val (.op .ne (.cons (.call F_times 0 (.cons (.var 4) (.cons (.var 2) .nil)) .nil) (.cons (.call F_times 0 (.cons (.var 0) (.cons (.op .mul (.cons (.var 1) (.cons (.var 2) .nil))) .nil)) .nil) .nil))))
    (.cons (.ret (.con (.bl false)))
    .nil)
    .nil) [some p.d, some (.int a), some (.int b), some (.int held), some pa.d, none, none] = some (.nx, [some p.d, some (.int a), some (.int b), some (.int held), some pa.d, none, none]) := by
    clear u1 u2 u3 u4 hp
    walk_at "ew*"
  refine Som.of e1 ?_
  clear e1 t1 t2 t3 t4 t5 t6 t7 t8 t9 d1 d2 d3
  walk_at "st"
  walk_at "st"
  refine ⟨by decide, som_rng (KInv p held (some (.int a)) (some (.int b)) (some pa.d)) ⟨none, by rw [u4]⟩ ?_ ?_⟩
  · rintro k e hk ⟨a6, rfl⟩
    have := right_k (fu := fu) (a1 := some (.int a)) (a2 := some (.int b)) (a4 := some pa.d) (a6 := a6) (u1 k hk) (u2 k) (u3 _)
    rw [Int.zero_add]
    refine Som.of this ⟨some (.int k), ?_⟩
    rw [lead_nP hp]
  · rintro e ⟨a6, rfl⟩
    walk_at "go"
theorem run_lright {p : Pr} (hp : p.ok) (hs : Sm (10 ^ 16) p) {a b : Nat} (ha : a ≤ 10 ^ 12) (hb : b ≤ 10 ^ 12) {held : Int} (hh : 0 ≤ held) : run tab 1000 (n + 6) F__law_right [p.d, .int a, .int b, .int held] = some (.bl true, []) := by
  have hs' : Sm (10 ^ 60) p := ⟨by have := hs.1; omega, fun s e => by have := hs.2 s e; omega⟩
  have T : ∀ m : Nat, m < 10 ^ 50 → run tab 1000 (n + 5) F_times [p.d, .int m] = some ((nP p m).d, []) := fun m hm => by
    have := @run_times 1000 n p hp hs' (m : Int) (by omega) (by omega)
    simpa using this
  have hab : a * b ≤ 10 ^ 12 * 10 ^ 12 := Nat.mul_le_mul ha hb
  have L := @run_ltimes (n + 2) p hp (a : Int) (by omega) (by omega)
  rw [Int.toNat_natCast] at L
  have B := @run_behind 1000 n _ _ (nP_ok hp a) (nP_ok hp b)
  rw [← nP_add hp] at B
  have M := @run_times 1000 n _ (nP_ok hp a) (nP_sm hp hs ha) (b : Int) (by omega) (by omega)
  rw [Int.toNat_natCast, nP_mul hp] at M
  have Q1 := T (a + b) (by omega)
  have Q2 := T (a * b) (by omega)
  rw [Int.natCast_add] at Q1
  rw [Int.natCast_mul] at Q2
  exact (som_run rfl rfl (right_b (T a (by omega)) (run_lis_pair (nP_ok hp a)) L Q1 (T b (by omega)) B M Q2 (mul_is (mul_ok (by omega) (by omega) (by omega) (by omega))) (fun k hk => T k (by omega)) (fun k => run_put_on (nP_ok hp k) hh) (fun c => run_lead p c) (lead_0 hh p) hp)).eq
theorem stands_b {R : Rn} {p : Pr} {a x y : Int} {held : Int} {pa pb : Pr}
    (t1 : R F_times [p.d, .int a] = some (pa.d, [])) (t2 : R F_put_on [pa.d, .int held] = some (.int x, [])) (t3 : R F_times [p.d, .int (a + 1)] = some (pb.d, [])) (t4 : R F_put_on [pb.d, .int held] = some (.int y, []))
    (h1 : ∀ s, p.s = some s → 0 < s → y = x + s) (h2 : (∀ s, p.s = some s → ¬ 0 < s) → y = p.f ∨ y ≤ x) :
    Som (exes tab R fu b__law_stands [some p.d, some (.int held), some (.int a), none, none]) fun r => Som (endK r.1 r.2 []) fun r => r = (.bl true, []) := by
  unfold b__law_stands
  refine som_cons ?_
  walk_at "sm"
  rw [t1]
  walk_at "sm"
  rw [t2]
  walk_at "sm"
  walk_at "st"
  rw [t3]
  walk_at "sm"
  rw [t4]
  walk_at "sm"
  clear t1 t2 t3 t4
  obtain ⟨f, s⟩ := p
  cases s with
  | none =>
    have h3 := h2 (by simp)
    clear h1 h2
    walk_at "st"
    rcases h3 with rfl | h3
    · walk_at "go"
    · by_cases h4 : y = f
      · subst h4; clear h3; walk_at "go"
      · have h4' : (y == f) = false := by simpa using h4
        clear h4
        walk_at "go*"
  | some s =>
    by_cases h0 : 0 < s
    · have h3 := h1 s rfl h0
      clear h1 h2
      subst h3
      walk_at "go*"
    · have h3 := h2 (by simp; omega)
      clear h1 h2
      walk_at "st*"
      by_cases h4 : y = f
      · subst h4; walk_at "go"
      · have h5 : y ≤ x := by
          rcases h3 with h | h
          · exact absurd h h4
          · exact h
        have h4' : (y == f) = false := by simpa using h4
        clear h3 h4
        walk_at "go*"
theorem run_stands {p : Pr} (hp : p.ok) (hs : Sm (10 ^ 16) p) {a : Nat} (ha0 : 1 ≤ a) (ha : a ≤ 10 ^ 30) {held : Int} (hh : 0 ≤ held) : run tab 1000 (n + 6) F__law_stands [p.d, .int held, .int a] = some (.bl true, []) := by
  have hs' : Sm (10 ^ 60) p := ⟨by have := hs.1; omega, fun s e => by have := hs.2 s e; omega⟩
  have T : ∀ m : Nat, m < 10 ^ 50 → run tab 1000 (n + 5) F_times [p.d, .int m] = some ((nP p m).d, []) := fun m hm => by
    have := @run_times 1000 n p hp hs' (m : Int) (by omega) (by omega)
    simpa using this
  have T1 := T (a + 1) (by omega)
  rw [Int.natCast_add] at T1
  have hx : p.f ≤ lead (nP p a) held := by
    obtain ⟨b, rfl⟩ : ∃ b, a = b + 1 := ⟨a - 1, by omega⟩
    rw [lead_nP hp]; exact lead_nn hp _
  refine (som_run rfl rfl (stands_b (T a (by omega)) (run_put_on (nP_ok hp a) hh) T1 (run_put_on (nP_ok hp (a + 1)) hh) (fun s e h => ?_) fun h => ?_)).eq
  · rw [lead_nP hp]
    generalize lead (nP p a) held = x at *
    simp only [lead, e, max2]
    split <;> omega
  · rw [lead_nP hp]
    generalize lead (nP p a) held = x at *
    obtain ⟨f, s⟩ := p
    cases s with
    | none => exact .inl rfl
    | some s =>
      have := h s rfl
      simp only [lead, max2]
      split
      · exact .inr (by omega)
      · exact .inl rfl
end Law

set_option Elab.async false
set_option linter.all false
set_option maxRecDepth 100000
set_option maxHeartbeats 4000000
namespace Law
open PySem Pv
local macro_rules | `(tactic| walk_at "ev") => `(tactic| simp [runFn, enter, exes, exe, ev, evs, evo, evc, evT, Pv.settle, peek, getF, setMany, arrange, argsD, lent, giveBack, outs, atI, ixN])
local macro_rules | `(tactic| walk_at "ev*") => `(tactic| simp [runFn, enter, exes, exe, ev, evs, evo, evc, evT, Pv.settle, peek, getF, setMany, arrange, argsD, lent, giveBack, outs, atI, ixN, *])
local macro_rules | `(tactic| walk_at "ew") => `(tactic| simp [e_var, e_con, e_op, e_slc, e_tup, e_lst, e_ite, andK_t, andK_f, orK_t, orK_f, notK_b, e_and, e_or, e_not, chK_f, chK_t, chK2_b, e_chain, e_call, e_comp, o_nil, o_var, o_con, c_con, t_con, r_con, o_op, c_op, t_op, r_op, o_slc, c_slc, t_slc, r_slc, o_tup, c_tup, t_tup, r_tup, o_lst, c_lst, t_lst, r_lst, o_ite, c_ite, t_ite, r_ite, o_and, c_and, t_and, r_and, o_or, c_or, t_or, r_or, o_not, c_not, t_not, r_not, o_chain, c_chain, t_chain, r_chain, o_call, c_call, t_call, r_call, o_comp, c_comp, t_comp, r_comp, c_nil, c_var, c_lend, s_nil, s_cons, t_yes, t_nt, t_ad, t_ro, t_var, x_asg, x_par, augK_i, x_aug, x_put, appK_l, x_app, x_expr, x_retv, x_retn, x_ite, x_loop, x_whl, x_pass, x_brk, x_cnt, x_never, seqK_nx, seqK_rt, seqK_bk, seqK_ct, xs_nil, xs_cons, endK_rt, endK_nx, run_fn, enter, Pv.settle, peek, getF, setMany, arrange, argsD, lent, giveBack, outs, putK, appK2, retV, LB, CB, -pMul_int])
local macro_rules | `(tactic| walk_at "ew*") => `(tactic| simp [e_var, e_con, e_op, e_slc, e_tup, e_lst, e_ite, andK_t, andK_f, orK_t, orK_f, notK_b, e_and, e_or, e_not, chK_f, chK_t, chK2_b, e_chain, e_call, e_comp, o_nil, o_var, o_con, c_con, t_con, r_con, o_op, c_op, t_op, r_op, o_slc, c_slc, t_slc, r_slc, o_tup, c_tup, t_tup, r_tup, o_lst, c_lst, t_lst, r_lst, o_ite, c_ite, t_ite, r_ite, o_and, c_and, t_and, r_and, o_or, c_or, t_or, r_or, o_not, c_not, t_not, r_not, o_chain, c_chain, t_chain, r_chain, o_call, c_call, t_call, r_call, o_comp, c_comp, t_comp, r_comp, c_nil, c_var, c_lend, s_nil, s_cons, t_yes, t_nt, t_ad, t_ro, t_var, x_asg, x_par, augK_i, x_aug, x_put, appK_l, x_app, x_expr, x_retv, x_retn, x_ite, x_loop, x_whl, x_pass, x_brk, x_cnt, x_never, seqK_nx, seqK_rt, seqK_bk, seqK_ct, xs_nil, xs_cons, endK_rt, endK_nx, run_fn, enter, Pv.settle, peek, getF, setMany, arrange, argsD, lent, giveBack, outs, putK, appK2, retV, LB, CB, -pMul_int, *])
local macro_rules | `(tactic| walk_at "sm") => `(tactic| simp [-pMul_int, e_var, e_con, e_op, e_slc, e_tup, e_lst, e_ite, andK_t, andK_f, orK_t, orK_f, notK_b, e_and, e_or, e_not, chK_f, chK_t, chK2_b, e_chain, e_call, e_comp, o_nil, o_var, o_con, c_con, t_con, r_con, o_op, c_op, t_op, r_op, o_slc, c_slc, t_slc, r_slc, o_tup, c_tup, t_tup, r_tup, o_lst, c_lst, t_lst, r_lst, o_ite, c_ite, t_ite, r_ite, o_and, c_and, t_and, r_and, o_or, c_or, t_or, r_or, o_not, c_not, t_not, r_not, o_chain, c_chain, t_chain, r_chain, o_call, c_call, t_call, r_call, o_comp, c_comp, t_comp, r_comp, c_nil, c_var, c_lend, s_nil, s_cons, t_yes, t_nt, t_ad, t_ro, t_var, x_asg, x_par, augK_i, x_aug, x_put, appK_l, x_app, x_expr, x_retv, x_retn, x_ite, x_loop, x_whl, x_pass, x_brk, x_cnt, x_never, xs_nil, endK_rt, endK_nx, enter, Pv.settle, peek, getF, setMany, arrange, argsD, lent, giveBack, outs, putK, appK2, retV, Som_some, Som_none, Som_bind, Som_map, Som_ite, seqB_nil, seqB_rt, seqB_bk, seqB_ct, LQ_nx, LQ_ct, LQ_bk, LQ_rt, unown, restore, wipeE, WC_is, WB_is])
local macro_rules | `(tactic| walk_at "sm*") => `(tactic| simp [-pMul_int, e_var, e_con, e_op, e_slc, e_tup, e_lst, e_ite, andK_t, andK_f, orK_t, orK_f, notK_b, e_and, e_or, e_not, chK_f, chK_t, chK2_b, e_chain, e_call, e_comp, o_nil, o_var, o_con, c_con, t_con, r_con, o_op, c_op, t_op, r_op, o_slc, c_slc, t_slc, r_slc, o_tup, c_tup, t_tup, r_tup, o_lst, c_lst, t_lst, r_lst, o_ite, c_ite, t_ite, r_ite, o_and, c_and, t_and, r_and, o_or, c_or, t_or, r_or, o_not, c_not, t_not, r_not, o_chain, c_chain, t_chain, r_chain, o_call, c_call, t_call, r_call, o_comp, c_comp, t_comp, r_comp, c_nil, c_var, c_lend, s_nil, s_cons, t_yes, t_nt, t_ad, t_ro, t_var, x_asg, x_par, augK_i, x_aug, x_put, appK_l, x_app, x_expr, x_retv, x_retn, x_ite, x_loop, x_whl, x_pass, x_brk, x_cnt, x_never, xs_nil, endK_rt, endK_nx, enter, Pv.settle, peek, getF, setMany, arrange, argsD, lent, giveBack, outs, putK, appK2, retV, Som_some, Som_none, Som_bind, Som_map, Som_ite, seqB_nil, seqB_rt, seqB_bk, seqB_ct, LQ_nx, LQ_ct, LQ_bk, LQ_rt, unown, restore, wipeE, WC_is, WB_is, *])
local macro_rules | `(tactic| walk_at "st") => `(tactic| ((first | refine som_nc ?_ | refine som_cons ?_); walk_at "sm"))
local macro_rules | `(tactic| walk_at "st*") => `(tactic| ((first | refine som_nc ?_ | refine som_cons ?_); walk_at "sm*"))
local macro_rules | `(tactic| walk_at "go") => `(tactic| repeat (walk_at "st"))
local macro_rules | `(tactic| walk_at "go*") => `(tactic| repeat (walk_at "st*"))
def tops : List Int := [2, 9, 1000000000000000]
theorem tops_ok {t : Int} (h : t ∈ tops) : 0 ≤ t ∧ t ≤ 10 ^ 15 := by
  simp only [tops, List.mem_cons, List.not_mem_nil, or_false] at h
  rcases h with rfl | rfl | rfl <;> decide
def KPost (c : Int) (xs ys : List (Option D)) (r : Pv.Flow × En) : Prop := ∃ w' b8 b9, r = (.nx, xs ++ some (.own w') :: ys ++ [b8, b9]) ∧ Well w' (c + 3)
theorem law_k {R : Rn} {fu : Nat} (HD : DrawOk R) (HO : OneOk R) {p : Pr} (h1 : ∀ (a b : Nat) held, a ≤ 10 ^ 12 → b ≤ 10 ^ 12 → 0 ≤ held → R F__law_right [p.d, .int a, .int b, .int held] = some (.bl true, []))
    (h2 : ∀ (a : Nat) held, 1 ≤ a → a ≤ 10 ^ 30 → 0 ≤ held → R F__law_stands [p.d, .int held, .int a] = some (.bl true, []))
    {w : List D} {c : Int} (hw : Well w c) (hc : c < 1000000) {os : List D} (ho : os.length = 5) (ho2 : ∀ x ∈ os, ∃ a : Nat, x = .int a ∧ a ≤ 10 ^ 12) {k : Nat} {held : Int} (hh : 0 ≤ held) {x7 : D} (hx7 : strip x7 = .lst os) {S a1 a3 a4 a5 a8 a9 : Option D} :
    Som (LB tab R fu (.tup [8, 9]) (.cons (.ite (.not (.val (.call F__law_right 0 (.cons (.var 6) (.cons (.call F__law_one 0 (.cons (.lend 2) (.cons (.var 7) .nil)) .nil) (.cons (.call F__law_one 0 (.cons (.lend 2) (.cons (.var 7) .nil)) .nil) (.cons (.var 9) .nil)))) .nil)))
    (.cons (.ret (.con (.bl false)))
    .nil)
    .nil)
    (.cons (.ite (.not (.val (.call F__law_stands 0 (.cons (.var 6) (.cons (.var 9) (.cons (.op .add (.cons (.con (.int 1)) (.cons (.call F__law_draw 0 (.cons (.lend 2) (.cons (.op .idx (.cons (.lst (.cons (.con (.int 3)) (.cons (.op .pow (.cons (.con (.int 10)) (.cons (.con (.int 20)) .nil))) .nil))) (.cons (.op .mod (.cons (.op .intv (.cons (.var 8) .nil)) (.cons (.con (.int 2)) .nil))) .nil))) .nil)) .nil) .nil))) .nil))) .nil)))
    (.cons (.ret (.con (.bl false)))
    .nil)
    .nil)
    .nil)) (.tup [.int k, .int held]) [S, a1, some (.own w), a3, a4, a5, some p.d, some x7, a8, a9]) (KPost c [S, a1] [a3, a4, a5, some p.d, some (.lst os)]) := by
  refine som_LB ?_
  walk_at "sm"
  refine som_cons ?_
  walk_at "sm"
  rw [hx7]
  refine HO.som hw (by omega) (by omega) (by omega) fun y w1 hy hw1 => ?_
  obtain ⟨a, rfl, ha⟩ := ho2 y hy
  walk_at "sm"
  refine HO.som hw1 (by omega) (by omega) (by omega) fun y w2 hy hw2 => ?_
  obtain ⟨b, rfl, hb⟩ := ho2 y hy
  walk_at "sm"
  rw [h1 a b held ha hb hh]
  walk_at "sm"
  refine som_nc ?_
  have hk : (k : Int) % 2 = 0 ∨ (k : Int) % 2 = 1 := by omega
  rcases hk with hk | hk
  · have e : pMod (.int k) (.int 2) = some (.int 0) := by simp [hk]
    walk_at "sm"
    simp only [hk]
    walk_at "sm"
    refine HD.som hw2 (by omega) (by decide) (by decide) fun d w3 hd0 hd1 hw3 => ?_
    obtain ⟨d', rfl⟩ : ∃ d' : Nat, d = d' := ⟨d.toNat, by omega⟩
    walk_at "sm"
    have := h2 (1 + d') held (by omega) (by omega) hh
    rw [Int.natCast_add] at this
    simp only [Int.cast_ofNat_Int] at this
    rw [this]
    walk_at "sm"
    exact ⟨w3, _, _, rfl, hw3.le (by omega)⟩
  · walk_at "sm"
    simp only [hk]
    walk_at "sm"
    refine HD.som hw2 (by omega) (by decide) (by decide) fun d w3 hd0 hd1 hw3 => ?_
    obtain ⟨d', rfl⟩ : ∃ d' : Nat, d = d' := ⟨d.toNat, by omega⟩
    walk_at "sm"
    have := h2 (1 + d') held (by omega) (by omega) hh
    rw [Int.natCast_add] at this
    simp only [Int.cast_ofNat_Int] at this
    rw [this]
    walk_at "sm"
    exact ⟨w3, _, _, rfl, hw3.le (by omega)⟩
end Law

set_option Elab.async false
set_option linter.all false
set_option maxRecDepth 100000
set_option maxHeartbeats 4000000
namespace Law
open PySem Pv
local macro_rules | `(tactic| walk_at "ev") => `(tactic| simp [runFn, enter, exes, exe, ev, evs, evo, evc, evT, Pv.settle, peek, getF, setMany, arrange, argsD, lent, giveBack, outs, atI, ixN])
local macro_rules | `(tactic| walk_at "ev*") => `(tactic| simp [runFn, enter, exes, exe, ev, evs, evo, evc, evT, Pv.settle, peek, getF, setMany, arrange, argsD, lent, giveBack, outs, atI, ixN, *])
local macro_rules | `(tactic| walk_at "ew") => `(tactic| simp [e_var, e_con, e_op, e_slc, e_tup, e_lst, e_ite, andK_t, andK_f, orK_t, orK_f, notK_b, e_and, e_or, e_not, chK_f, chK_t, chK2_b, e_chain, e_call, e_comp, o_nil, o_var, o_con, c_con, t_con, r_con, o_op, c_op, t_op, r_op, o_slc, c_slc, t_slc, r_slc, o_tup, c_tup, t_tup, r_tup, o_lst, c_lst, t_lst, r_lst, o_ite, c_ite, t_ite, r_ite, o_and, c_and, t_and, r_and, o_or, c_or, t_or, r_or, o_not, c_not, t_not, r_not, o_chain, c_chain, t_chain, r_chain, o_call, c_call, t_call, r_call, o_comp, c_comp, t_comp, r_comp, c_nil, c_var, c_lend, s_nil, s_cons, t_yes, t_nt, t_ad, t_ro, t_var, x_asg, x_par, augK_i, x_aug, x_put, appK_l, x_app, x_expr, x_retv, x_retn, x_ite, x_loop, x_whl, x_pass, x_brk, x_cnt, x_never, seqK_nx, seqK_rt, seqK_bk, seqK_ct, xs_nil, xs_cons, endK_rt, endK_nx, run_fn, enter, Pv.settle, peek, getF, setMany, arrange, argsD, lent, giveBack, outs, putK, appK2, retV, LB, CB, -pMul_int])
local macro_rules | `(tactic| walk_at "ew*") => `(tactic| simp [e_var, e_con, e_op, e_slc, e_tup, e_lst, e_ite, andK_t, andK_f, orK_t, orK_f, notK_b, e_and, e_or, e_not, chK_f, chK_t, chK2_b, e_chain, e_call, e_comp, o_nil, o_var, o_con, c_con, t_con, r_con, o_op, c_op, t_op, r_op, o_slc, c_slc, t_slc, r_slc, o_tup, c_tup, t_tup, r_tup, o_lst, c_lst, t_lst, r_lst, o_ite, c_ite, t_ite, r_ite, o_and, c_and, t_and, r_and, o_or, c_or, t_or, r_or, o_not, c_not, t_not, r_not, o_chain, c_chain, t_chain, r_chain, o_call, c_call, t_call, r_call, o_comp, c_comp, t_comp, r_comp, c_nil, c_var, c_lend, s_nil, s_cons, t_yes, t_nt, t_ad, t_ro, t_var, x_asg, x_par, augK_i, x_aug, x_put, appK_l, x_app, x_expr, x_retv, x_retn, x_ite, x_loop, x_whl, x_pass, x_brk, x_cnt, x_never, seqK_nx, seqK_rt, seqK_bk, seqK_ct, xs_nil, xs_cons, endK_rt, endK_nx, run_fn, enter, Pv.settle, peek, getF, setMany, arrange, argsD, lent, giveBack, outs, putK, appK2, retV, LB, CB, -pMul_int, *])
local macro_rules | `(tactic| walk_at "sm") => `(tactic| simp [-pMul_int, e_var, e_con, e_op, e_slc, e_tup, e_lst, e_ite, andK_t, andK_f, orK_t, orK_f, notK_b, e_and, e_or, e_not, chK_f, chK_t, chK2_b, e_chain, e_call, e_comp, o_nil, o_var, o_con, c_con, t_con, r_con, o_op, c_op, t_op, r_op, o_slc, c_slc, t_slc, r_slc, o_tup, c_tup, t_tup, r_tup, o_lst, c_lst, t_lst, r_lst, o_ite, c_ite, t_ite, r_ite, o_and, c_and, t_and, r_and, o_or, c_or, t_or, r_or, o_not, c_not, t_not, r_not, o_chain, c_chain, t_chain, r_chain, o_call, c_call, t_call, r_call, o_comp, c_comp, t_comp, r_comp, c_nil, c_var, c_lend, s_nil, s_cons, t_yes, t_nt, t_ad, t_ro, t_var, x_asg, x_par, augK_i, x_aug, x_put, appK_l, x_app, x_expr, x_retv, x_retn, x_ite, x_loop, x_whl, x_pass, x_brk, x_cnt, x_never, xs_nil, endK_rt, endK_nx, enter, Pv.settle, peek, getF, setMany, arrange, argsD, lent, giveBack, outs, putK, appK2, retV, Som_some, Som_none, Som_bind, Som_map, Som_ite, seqB_nil, seqB_rt, seqB_bk, seqB_ct, LQ_nx, LQ_ct, LQ_bk, LQ_rt, unown, restore, wipeE, WC_is, WB_is])
local macro_rules | `(tactic| walk_at "sm*") => `(tactic| simp [-pMul_int, e_var, e_con, e_op, e_slc, e_tup, e_lst, e_ite, andK_t, andK_f, orK_t, orK_f, notK_b, e_and, e_or, e_not, chK_f, chK_t, chK2_b, e_chain, e_call, e_comp, o_nil, o_var, o_con, c_con, t_con, r_con, o_op, c_op, t_op, r_op, o_slc, c_slc, t_slc, r_slc, o_tup, c_tup, t_tup, r_tup, o_lst, c_lst, t_lst, r_lst, o_ite, c_ite, t_ite, r_ite, o_and, c_and, t_and, r_and, o_or, c_or, t_or, r_or, o_not, c_not, t_not, r_not, o_chain, c_chain, t_chain, r_chain, o_call, c_call, t_call, r_call, o_comp, c_comp, t_comp, r_comp, c_nil, c_var, c_lend, s_nil, s_cons, t_yes, t_nt, t_ad, t_ro, t_var, x_asg, x_par, augK_i, x_aug, x_put, appK_l, x_app, x_expr, x_retv, x_retn, x_ite, x_loop, x_whl, x_pass, x_brk, x_cnt, x_never, xs_nil, endK_rt, endK_nx, enter, Pv.settle, peek, getF, setMany, arrange, argsD, lent, giveBack, outs, putK, appK2, retV, Som_some, Som_none, Som_bind, Som_map, Som_ite, seqB_nil, seqB_rt, seqB_bk, seqB_ct, LQ_nx, LQ_ct, LQ_bk, LQ_rt, unown, restore, wipeE, WC_is, WB_is, *])
local macro_rules | `(tactic| walk_at "st") => `(tactic| ((first | refine som_nc ?_ | refine som_cons ?_); walk_at "sm"))
local macro_rules | `(tactic| walk_at "st*") => `(tactic| ((first | refine som_nc ?_ | refine som_cons ?_); walk_at "sm*"))
local macro_rules | `(tactic| walk_at "go") => `(tactic| repeat (walk_at "st"))
local macro_rules | `(tactic| walk_at "go*") => `(tactic| repeat (walk_at "st*"))
def PPost (c : Int) (xs ys : List (Option D)) (r : Pv.Flow × En) : Prop := ∃ w' b6 b7 b8 b9, r = (.nx, xs ++ some (.own w') :: ys ++ [b6, b7, b8, b9]) ∧ Well w' (c + 20)
def EInv (c : Int) (os : List D) (xs ys : List (Option D)) (pre : List (Nat × D)) (e : En) : Prop := ∃ w' x7 b8 b9, strip x7 = .lst os ∧ e = xs ++ some (.own w') :: ys ++ [some x7, b8, b9] ∧ Well w' (c + 2 + 3 * pre.length)
theorem law_p {R : Rn} {fu : Nat} (HD : DrawOk R) (HO : OneOk R) (h1 : ∀ (p : Pr) (a b : Nat) held, p.ok → Sm (10 ^ 16) p → a ≤ 10 ^ 12 → b ≤ 10 ^ 12 → 0 ≤ held → R F__law_right [p.d, .int a, .int b, .int held] = some (.bl true, []))
    (h2 : ∀ (p : Pr) (a : Nat) held, p.ok → Sm (10 ^ 16) p → 1 ≤ a → a ≤ 10 ^ 30 → 0 ≤ held → R F__law_stands [p.d, .int held, .int a] = some (.bl true, []))
    {p : Pr} (hp : p.ok) (hs : Sm (10 ^ 16) p) {w : List D} {c : Int} (hw : Well w c) (hc : c < 100000) {hs : List Int} (hh : ∀ h ∈ hs, 0 ≤ h) (hl : hs.length = 3) {x5 : D} (hx5 : strip x5 = .lst (hs.map D.int)) {S a1 a3 a4 a6 a7 a8 a9 : Option D} :
    Som (LB tab R fu (.name 6) (.cons (.asg (.name 7) (.lst (.cons (.con (.int 0)) (.cons (.con (.int 1)) (.cons (.con (.int 2)) (.cons (.call F__law_draw 0 (.cons (.lend 2) (.cons (.con (.int 40)) .nil)) .nil) (.cons (.call F__law_draw 0 (.cons (.lend 2) (.cons (.op .pow (.cons (.con (.int 10)) (.cons (.con (.int 12)) .nil))) .nil)) .nil) .nil)))))))
    (.cons (.loop (.tup [8, 9]) .enum (.cons (.var 5) .nil)
    (.cons (.ite (.not (.val (.call F__law_right 0 (.cons (.var 6) (.cons (.call F__law_one 0 (.cons (.lend 2) (.cons (.var 7) .nil)) .nil) (.cons (.call F__law_one 0 (.cons (.lend 2) (.cons (.var 7) .nil)) .nil) (.cons (.var 9) .nil)))) .nil)))
    (.cons (.ret (.con (.bl false)))
    .nil)
    .nil)
    (.cons (.ite (.not (.val (.call F__law_stands 0 (.cons (.var 6) (.cons (.var 9) (.cons (.op .add (.cons (.con (.int 1)) (.cons (.call F__law_draw 0 (.cons (.lend 2) (.cons (.op .idx (.cons (.lst (.cons (.con (.int 3)) (.cons (.op .pow (.cons (.con (.int 10)) (.cons (.con (.int 20)) .nil))) .nil))) (.cons (.op .mod (.cons (.op .intv (.cons (.var 8) .nil)) (.cons (.con (.int 2)) .nil))) .nil))) .nil)) .nil) .nil))) .nil))) .nil)))
    (.cons (.ret (.con (.bl false)))
    .nil)
    .nil)
    .nil)))
    .nil)) p.d [S, a1, some (.own w), a3, a4, some x5, a6, a7, a8, a9]) (PPost c [S, a1] [a3, a4, some (.lst (hs.map D.int))]) := by
  refine som_LB ?_
  walk_at "sm"
  refine som_cons ?_
  walk_at "sm"
  refine HD.som hw (by omega) (by decide) (by decide) fun d1 w1 d10 d11 hw1 => ?_
  walk_at "sm"
  refine HD.som hw1 (by omega) (by decide) (by decide) fun d2 w2 d20 d21 hw2 => ?_
  walk_at "sm"
  walk_at "st"
  rw [hx5]
  walk_at "sm"
  have ho2 : ∀ x ∈ [D.int 0, D.int 1, D.int 2, D.int d1, D.int d2], ∃ a : Nat, x = .int a ∧ a ≤ 10 ^ 12 := by
    intro x hx
    simp only [List.mem_cons, List.not_mem_nil, or_false] at hx
    rcases hx with rfl | rfl | rfl | rfl | rfl
    · exact ⟨0, rfl, by decide⟩
    · exact ⟨1, rfl, by decide⟩
    · exact ⟨2, rfl, by decide⟩
    · exact ⟨d1.toNat, by rw [Int.toNat_of_nonneg d10], by omega⟩
    · exact ⟨d2.toNat, by rw [Int.toNat_of_nonneg d20], by omega⟩
  have ho : [D.int 0, D.int 1, D.int 2, D.int d1, D.int d2].length = 5 := rfl
  generalize [D.int 0, D.int 1, D.int 2, D.int d1, D.int d2] = os at *
  refine som_for (fun (q : Nat × D) => D.tup [.int (q.1 : Int), q.2]) (EInv c os [S, a1] [a3, a4, some (.lst (hs.map D.int)), some p.d]) _ ⟨w2, .own os, a8, a9, rfl, rfl, hw2.le (by simp; omega)⟩ ?_ ?_
  · rintro pre q post e hx ⟨w3, x7, b8, b9, hx7, rfl, hw3⟩
    have hlen : pre.length < 3 := by have := congrArg List.length hx; simp [hl] at this; omega
    obtain ⟨k, y⟩ := q
    have hy : y ∈ hs.map D.int := (List.of_mem_zip (show (k, y) ∈ (List.range hs.length).zip (hs.map D.int) by rw [hx]; simp)).2
    obtain ⟨held, hm, rfl⟩ := List.mem_map.1 hy
    refine (law_k HD HO (fun a b h ha hb h0 => h1 p a b h hp ‹_› ha hb h0) (fun a h ha hb h0 => h2 p a h hp ‹_› ha hb h0) hw3 (by omega) ho ho2 (hh held hm) hx7).mono ?_
    rintro r ⟨w4, c8, c9, rfl, hw4⟩
    exact ⟨w4, .lst os, c8, c9, rfl, rfl, hw4.le (by simp; omega)⟩
  · rintro e ⟨w3, x7, b8, b9, hx7, rfl, hw3⟩
    exact ⟨w3, _, _, _, _, rfl, hw3.le (by simp [hl]; omega)⟩
end Law

set_option Elab.async false
set_option linter.all false
set_option maxRecDepth 100000
set_option maxHeartbeats 4000000
namespace Law
open PySem Pv
local macro_rules | `(tactic| walk_at "ev") => `(tactic| simp [runFn, enter, exes, exe, ev, evs, evo, evc, evT, Pv.settle, peek, getF, setMany, arrange, argsD, lent, giveBack, outs, atI, ixN])
local macro_rules | `(tactic| walk_at "ev*") => `(tactic| simp [runFn, enter, exes, exe, ev, evs, evo, evc, evT, Pv.settle, peek, getF, setMany, arrange, argsD, lent, giveBack, outs, atI, ixN, *])
local macro_rules | `(tactic| walk_at "ew") => `(tactic| simp [e_var, e_con, e_op, e_slc, e_tup, e_lst, e_ite, andK_t, andK_f, orK_t, orK_f, notK_b, e_and, e_or, e_not, chK_f, chK_t, chK2_b, e_chain, e_call, e_comp, o_nil, o_var, o_con, c_con, t_con, r_con, o_op, c_op, t_op, r_op, o_slc, c_slc, t_slc, r_slc, o_tup, c_tup, t_tup, r_tup, o_lst, c_lst, t_lst, r_lst, o_ite, c_ite, t_ite, r_ite, o_and, c_and, t_and, r_and, o_or, c_or, t_or, r_or, o_not, c_not, t_not, r_not, o_chain, c_chain, t_chain, r_chain, o_call, c_call, t_call, r_call, o_comp, c_comp, t_comp, r_comp, c_nil, c_var, c_lend, s_nil, s_cons, t_yes, t_nt, t_ad, t_ro, t_var, x_asg, x_par, augK_i, x_aug, x_put, appK_l, x_app, x_expr, x_retv, x_retn, x_ite, x_loop, x_whl, x_pass, x_brk, x_cnt, x_never, seqK_nx, seqK_rt, seqK_bk, seqK_ct, xs_nil, xs_cons, endK_rt, endK_nx, run_fn, enter, Pv.settle, peek, getF, setMany, arrange, argsD, lent, giveBack, outs, putK, appK2, retV, LB, CB, -pMul_int])
local macro_rules | `(tactic| walk_at "ew*") => `(tactic| simp [e_var, e_con, e_op, e_slc, e_tup, e_lst, e_ite, andK_t, andK_f, orK_t, orK_f, notK_b, e_and, e_or, e_not, chK_f, chK_t, chK2_b, e_chain, e_call, e_comp, o_nil, o_var, o_con, c_con, t_con, r_con, o_op, c_op, t_op, r_op, o_slc, c_slc, t_slc, r_slc, o_tup, c_tup, t_tup, r_tup, o_lst, c_lst, t_lst, r_lst, o_ite, c_ite, t_ite, r_ite, o_and, c_and, t_and, r_and, o_or, c_or, t_or, r_or, o_not, c_not, t_not, r_not, o_chain, c_chain, t_chain, r_chain, o_call, c_call, t_call, r_call, o_comp, c_comp, t_comp, r_comp, c_nil, c_var, c_lend, s_nil, s_cons, t_yes, t_nt, t_ad, t_ro, t_var, x_asg, x_par, augK_i, x_aug, x_put, appK_l, x_app, x_expr, x_retv, x_retn, x_ite, x_loop, x_whl, x_pass, x_brk, x_cnt, x_never, seqK_nx, seqK_rt, seqK_bk, seqK_ct, xs_nil, xs_cons, endK_rt, endK_nx, run_fn, enter, Pv.settle, peek, getF, setMany, arrange, argsD, lent, giveBack, outs, putK, appK2, retV, LB, CB, -pMul_int, *])
local macro_rules | `(tactic| walk_at "sm") => `(tactic| simp [-pMul_int, e_var, e_con, e_op, e_slc, e_tup, e_lst, e_ite, andK_t, andK_f, orK_t, orK_f, notK_b, e_and, e_or, e_not, chK_f, chK_t, chK2_b, e_chain, e_call, e_comp, o_nil, o_var, o_con, c_con, t_con, r_con, o_op, c_op, t_op, r_op, o_slc, c_slc, t_slc, r_slc, o_tup, c_tup, t_tup, r_tup, o_lst, c_lst, t_lst, r_lst, o_ite, c_ite, t_ite, r_ite, o_and, c_and, t_and, r_and, o_or, c_or, t_or, r_or, o_not, c_not, t_not, r_not, o_chain, c_chain, t_chain, r_chain, o_call, c_call, t_call, r_call, o_comp, c_comp, t_comp, r_comp, c_nil, c_var, c_lend, s_nil, s_cons, t_yes, t_nt, t_ad, t_ro, t_var, x_asg, x_par, augK_i, x_aug, x_put, appK_l, x_app, x_expr, x_retv, x_retn, x_ite, x_loop, x_whl, x_pass, x_brk, x_cnt, x_never, xs_nil, endK_rt, endK_nx, enter, Pv.settle, peek, getF, setMany, arrange, argsD, lent, giveBack, outs, putK, appK2, retV, Som_some, Som_none, Som_bind, Som_map, Som_ite, seqB_nil, seqB_rt, seqB_bk, seqB_ct, LQ_nx, LQ_ct, LQ_bk, LQ_rt, unown, restore, wipeE, WC_is, WB_is])
local macro_rules | `(tactic| walk_at "sm*") => `(tactic| simp [-pMul_int, e_var, e_con, e_op, e_slc, e_tup, e_lst, e_ite, andK_t, andK_f, orK_t, orK_f, notK_b, e_and, e_or, e_not, chK_f, chK_t, chK2_b, e_chain, e_call, e_comp, o_nil, o_var, o_con, c_con, t_con, r_con, o_op, c_op, t_op, r_op, o_slc, c_slc, t_slc, r_slc, o_tup, c_tup, t_tup, r_tup, o_lst, c_lst, t_lst, r_lst, o_ite, c_ite, t_ite, r_ite, o_and, c_and, t_and, r_and, o_or, c_or, t_or, r_or, o_not, c_not, t_not, r_not, o_chain, c_chain, t_chain, r_chain, o_call, c_call, t_call, r_call, o_comp, c_comp, t_comp, r_comp, c_nil, c_var, c_lend, s_nil, s_cons, t_yes, t_nt, t_ad, t_ro, t_var, x_asg, x_par, augK_i, x_aug, x_put, appK_l, x_app, x_expr, x_retv, x_retn, x_ite, x_loop, x_whl, x_pass, x_brk, x_cnt, x_never, xs_nil, endK_rt, endK_nx, enter, Pv.settle, peek, getF, setMany, arrange, argsD, lent, giveBack, outs, putK, appK2, retV, Som_some, Som_none, Som_bind, Som_map, Som_ite, seqB_nil, seqB_rt, seqB_bk, seqB_ct, LQ_nx, LQ_ct, LQ_bk, LQ_rt, unown, restore, wipeE, WC_is, WB_is, *])
local macro_rules | `(tactic| walk_at "st") => `(tactic| ((first | refine som_nc ?_ | refine som_cons ?_); walk_at "sm"))
local macro_rules | `(tactic| walk_at "st*") => `(tactic| ((first | refine som_nc ?_ | refine som_cons ?_); walk_at "sm*"))
local macro_rules | `(tactic| walk_at "go") => `(tactic| repeat (walk_at "st"))
local macro_rules | `(tactic| walk_at "go*") => `(tactic| repeat (walk_at "st*"))
def LInv (c : Int) (t : Int) (cell : Int) (S : Option D) (hs : List Int) (ps : List Pr) (pre : List Pr) (e : En) : Prop := ∃ w' x5 b6 b7 b8 b9, strip x5 = .lst (hs.map D.int) ∧ e = [S, some (.int cell), some (.own w'), some (.int t), some (.lst (ps.map Pr.d)), some x5, b6, b7, b8, b9] ∧ Well w' (c + 20 * pre.length)
def MInv (S : Option D) (pre : List Int) (e : En) : Prop := ∃ b1 b2 b3 b4 b5 b6 b7 b8 b9, e = [S, b1, b2, b3, b4, b5, b6, b7, b8, b9]
theorem law_true (ns : List Int) (hl : ns.length ≤ 63) : Som (run tab 1000 12 F_law [.rol (ns.map D.int)]) fun r => r = (.bl true, []) := by
  refine som_run rfl rfl ?_
  obtain ⟨c, hc⟩ := @run_cell 1000 10 ns
  have hwell : ∀ x, ∃ w, run tab 1000 (10 + 1) F__law_well [.int x] = some (.own w, []) ∧ Well w 0 := fun x => run_well x
  have HD : DrawOk (run tab 1000 (10 + 1)) := drawOk
  have HO : OneOk (run tab 1000 (9 + 2)) := oneOk
  have HP : PairOk (run tab 1000 (9 + 2)) := pairOk
  have h1 : ∀ (p : Pr) (a b : Nat) held, p.ok → Sm (10 ^ 16) p → a ≤ 10 ^ 12 → b ≤ 10 ^ 12 → 0 ≤ held → run tab 1000 (5 + 6) F__law_right [p.d, .int a, .int b, .int held] = some (.bl true, []) := fun p a b held hp hs ha hb hh => run_lright hp hs ha hb hh
  have h2 : ∀ (p : Pr) (a : Nat) held, p.ok → Sm (10 ^ 16) p → 1 ≤ a → a ≤ 10 ^ 30 → 0 ≤ held → run tab 1000 (5 + 6) F__law_stands [p.d, .int held, .int a] = some (.bl true, []) := fun p a held hp hs ha hb hh => run_stands hp hs ha hb hh
  simp only [Nat.reduceAdd] at *
  generalize run tab 1000 11 = R at *
  simp only [fn_law, b_law]
  have hcut : cut (ns.map D.int) (some 1) (some 8) = (cut ns (some 1) (some 8)).map D.int := by simp [cut, List.map_drop, List.map_take]
  have hlen : 1 + (cut ns (some 1) (some 8)).length ≤ LIM := by
    have : (cut ns (some 1) (some 8)).length ≤ ns.length := by simp [cut]; omega
    unfold LIM; omega
  refine som_cons ?_
  walk_at "sm"
  rw [hc]
  walk_at "sm"
  rw [hcut]
  refine ⟨by simpa using hlen, som_for (g := D.int) (MInv (some (D.rol (ns.map D.int)))) (c :: cut ns (some 1) (some 8)) ⟨_, _, _, _, _, _, _, _, _, rfl⟩ ?_ ?_⟩
  · rintro pre x post e hx ⟨b1, b2, b3, b4, b5, b6, b7, b8, b9, rfl⟩
    obtain ⟨w, hw, hww⟩ := hwell x
    refine som_LB ?_
    walk_at "sm"
    walk_at "st"
    rw [hw]
    walk_at "sm"
    walk_at "st"
    refine HO.som hww (by decide) (by decide) (by decide) fun d w' hd hw' => ?_
    obtain ⟨t, ht, rfl⟩ : ∃ t ∈ tops, d = .int t := by
      simp only [List.mem_cons, List.not_mem_nil, or_false] at hd
      simp only [tops, List.mem_cons, List.not_mem_nil, or_false]
      rcases hd with rfl | rfl | rfl <;> exact ⟨_, by simp, rfl⟩
    obtain ⟨t0, t1⟩ := tops_ok ht
    have tl : (t + 1).natAbs.log2 < 9000 := log_ok (by omega) (by omega)
    walk_at "sm"
    walk_at "st"
    refine HP.som hw' (by decide) t0 tl fun p1 w1 p1a p1b p1c hw1 => ?_
    walk_at "sm"
    refine HP.som hw1 (by decide) t0 tl fun p2 w2 p2a p2b p2c hw2 => ?_
    walk_at "sm"
    refine HD.som hw2 (by decide) (by omega) tl fun d3 w3 d30 d31 hw3 => ?_
    walk_at "sm"
    walk_at "st"
    refine HD.som hw3 (by decide) (by omega) tl fun d4 w4 d40 d41 hw4 => ?_
    walk_at "sm"
    refine HD.som hw4 (by decide) (by decide) (by decide) fun d5 w5 d50 d51 hw5 => ?_
    walk_at "sm"
    have hps : ∀ p ∈ [p1, p2, (⟨d3, some 0⟩ : Pr)], p.ok ∧ Sm (10 ^ 16) p := by
      have k1 := p1a.1
      have k2 := p2a.1
      intro p hp
      simp only [List.mem_cons, List.not_mem_nil, or_false] at hp
      rcases hp with rfl | rfl | rfl
      · exact ⟨p1a, by omega, fun s e => by have := p1a.2 s e; have := p1c s e; omega⟩
      · exact ⟨p2a, by omega, fun s e => by have := p2a.2 s e; have := p2c s e; omega⟩
      · exact ⟨⟨d30, fun s e => by cases e; exact d30⟩, by show d3 < _; omega, fun s e => by cases e; omega⟩
    have hhs : ∀ h ∈ [0, d4, d5], 0 ≤ h := by
      intro h hh
      simp only [List.mem_cons, List.not_mem_nil, or_false] at hh
      rcases hh with rfl | rfl | rfl <;> omega
    have hl3 : [0, d4, d5].length = 3 := rfl
    have hp3 : [p1, p2, (⟨d3, some 0⟩ : Pr)].length = 3 := rfl
    rw [show [D.int 0, D.int d4, D.int d5] = [0, d4, d5].map D.int from rfl, show [p1.d, p2.d, D.tup [D.int d3, D.int 0]] = [p1, p2, (⟨d3, some 0⟩ : Pr)].map Pr.d from rfl]
    generalize [0, d4, d5] = hs at *
    generalize [p1, p2, (⟨d3, some 0⟩ : Pr)] = ps at *
    walk_at "st"
    refine som_for Pr.d (LInv (0 + 1 + 4 + 4 + 1 + 1 + 1) t x (some (D.rol (ns.map D.int))) hs ps) ps ⟨w5, .own (hs.map D.int), _, _, _, _, rfl, rfl, hw5.le (by simp)⟩ ?_ ?_
    · rintro pre p post e hx ⟨w6, x5, b6, b7, b8, b9, hx5, rfl, hw6⟩
      obtain ⟨hp, hsm⟩ := hps p (by rw [hx]; simp)
      have hlen : pre.length < 3 := by have := congrArg List.length hx; simp [hp3] at this; omega
      refine (law_p HD HO h1 h2 hp hsm hw6 (by omega) hhs hl3 hx5).mono ?_
      rintro r ⟨w7, c6, c7, c8, c9, rfl, hw7⟩
      exact ⟨w7, .lst (hs.map D.int), c6, c7, c8, c9, rfl, rfl, hw7.le (by simp; omega)⟩
    · rintro e ⟨w6, x5, b6, b7, b8, b9, hx5, rfl, hw6⟩
      walk_at "sm"
      exact ⟨_, _, _, _, _, _, _, _, _, rfl⟩
  · rintro e ⟨b1, b2, b3, b4, b5, b6, b7, b8, b9, rfl⟩
    walk_at "go"
end Law

set_option Elab.async false
open PySem PySem.W PyProof.Rows
set_option maxRecDepth 100000 in
set_option maxHeartbeats 0 in
theorem PySem.Challenge.cw_dripbell_k32_pairs_so_many_times_holds : PySem.Challenge.rw_dripbell_k32_pairs_so_many_times.Holds := by
  w_on; o_law; k_head; (case hw => w_witness2)
  k_fill
  refine L2.walk_ofB (n := 63) (k := 12) (x := "_law_script") (CX := fun _ => L2.CX0) (sp := fun w => Pv.spF (_) (Pv.run Law.tab 1000 12) Law.F_law Law.fn_law) rfl (by decide) rfl ⟨rfl, by decide, by decide⟩ (fun w h Y => PySem.W.kIn_of Y) ?F (fun w H a ns hl hbits hO hs => Pv.sp_law rfl hO hs hl (Law.law_true ns hl).eq) fun _ _ _ _ _ z => z
  case F =>
    intro w mg fa h KX G hmg
    refine' Law.all_mk KX G hmg ?a_0 ?l_0 ?c_0 ?k_0 ?a_1 ?l_1 ?c_1 ?k_1 ?d_1 ?a_2 ?l_2 ?c_2 ?k_2 ?a_3 ?l_3 ?c_3 ?k_3 ?a_4 ?l_4 ?c_4 ?k_4 ?d_4 ?a_5 ?l_5 ?c_5 ?k_5 ?a_6 ?l_6 ?c_6 ?k_6 ?a_7 ?l_7 ?c_7 ?k_7 ?a_8 ?l_8 ?c_8 ?k_8 ?a_9 ?l_9 ?c_9 ?k_9 ?a_10 ?l_10 ?c_10 ?k_10 ?a_11 ?l_11 ?c_11 ?k_11 ?a_12 ?l_12 ?c_12 ?k_12 ?a_13 ?l_13 ?c_13 ?k_13 ?a_14 ?l_14 ?c_14 ?k_14 ?a_15 ?l_15 ?c_15 ?k_15 ?a_16 ?l_16 ?c_16 ?k_16 ?a_17 ?l_17 ?c_17 ?k_17 ?a_18 ?l_18 ?c_18 ?k_18 ?a_19 ?l_19 ?c_19 ?k_19 ?a_20 ?l_20 ?c_20 ?k_20 ?a_21 ?l_21 ?c_21 ?k_21 ?a_22 ?l_22 ?c_22 ?k_22 ?z_0 ?z_1 ?z_2 ?z_3 ?z_4 ?z_5 ?z_6 ?z_7 1000 12
    (case a_0 => k_is); (case l_0 => k_is); (case c_0 => k_is); (case k_0 => k_is); (case a_1 => k_is); (case l_1 => k_is); (case c_1 => k_is); (case k_1 => k_is); (case d_1 => k_is); (case a_2 => k_is); (case l_2 => k_is); (case c_2 => k_is); (case k_2 => k_is); (case a_3 => k_is); (case l_3 => k_is); (case c_3 => k_is); (case k_3 => k_is); (case a_4 => k_is); (case l_4 => k_is); (case c_4 => k_is); (case k_4 => k_is); (case d_4 => k_is); (case a_5 => k_is); (case l_5 => k_is); (case c_5 => k_is); (case k_5 => k_is); (case a_6 => k_is); (case l_6 => k_is); (case c_6 => k_is); (case k_6 => k_is); (case a_7 => k_is); (case l_7 => k_is); (case c_7 => k_is); (case k_7 => k_is); (case a_8 => k_is); (case l_8 => k_is); (case c_8 => k_is); (case k_8 => k_is); (case a_9 => k_is); (case l_9 => k_is); (case c_9 => k_is); (case k_9 => k_is); (case a_10 => k_is); (case l_10 => k_is); (case c_10 => k_is); (case k_10 => k_is); (case a_11 => k_is); (case l_11 => k_is); (case c_11 => k_is); (case k_11 => k_is); (case a_12 => k_is); (case l_12 => k_is); (case c_12 => k_is); (case k_12 => k_is); (case a_13 => k_is); (case l_13 => k_is); (case c_13 => k_is); (case k_13 => k_is); (case a_14 => k_is); (case l_14 => k_is); (case c_14 => k_is); (case k_14 => k_is); (case a_15 => k_is); (case l_15 => k_is); (case c_15 => k_is); (case k_15 => k_is); (case a_16 => k_is); (case l_16 => k_is); (case c_16 => k_is); (case k_16 => k_is); (case a_17 => k_is); (case l_17 => k_is); (case c_17 => k_is); (case k_17 => k_is); (case a_18 => k_is); (case l_18 => k_is); (case c_18 => k_is); (case k_18 => k_is); (case a_19 => k_is); (case l_19 => k_is); (case c_19 => k_is); (case k_19 => k_is); (case a_20 => k_is); (case l_20 => k_is); (case c_20 => k_is); (case k_20 => k_is); (case a_21 => k_is); (case l_21 => k_is); (case c_21 => k_is); (case k_21 => k_is); (case a_22 => k_is); (case l_22 => k_is); (case c_22 => k_is); (case k_22 => k_is); (case z_0 => k_is); (case z_1 => k_is); (case z_2 => k_is); (case z_3 => k_is); (case z_4 => k_is); (case z_5 => k_is); (case z_6 => k_is); (case z_7 => k_is)

