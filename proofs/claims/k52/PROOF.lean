import PyProof.Rows.All
import Wide.All
import OpenK.AllK
import Wide.FinOn
import HandS.ForMost
import HandS.IsInst
import HandS.WordsExc
import HandS.Zip
import HandS.Wide
import HandS.TupAny
import HandS.TupMul
import HandS.Deep
import HandS.Style
import HandS.SortKw
import KE.DatumOrd
import KE.KDictZip
import HandS.HeadHook2
import HandS.HeadEnd
import HandS.Head0
import HandS.Head1
import HandS.Head2
import HandS.Defaults
import HandS.HeadHook4
import KE.KStateDown
import Lean
import PySem.Challenge.RW_reasonsgiven_k52_whole_counts
set_option Elab.async false
set_option linter.all false
set_option maxRecDepth 100000
/-! IC: a small interpreter over plain data, without a heap -/
namespace Py
open PySem

abbrev D := PyData

mutual
def same : D → D → Bool
  | .none, .none => true
  | .bool a, .bool b => a == b
  | .int a, .int b => decide (a = b)
  | .str a, .str b => decide (a = b)
  | .list a, .list b => sames a b
  | .tuple a, .tuple b => sames a b
  | _, _ => false
def sames : List D → List D → Bool
  | [], [] => true
  | a :: as, b :: bs => same a b && sames as bs
  | _, _ => false
end
mutual
theorem eq_of_same : ∀ a b : D, same a b = true → a = b
  | .none, b, h => by cases b <;> simp [same] at h ⊢
  | .bool x, b, h => by cases b <;> simp [same] at h ⊢; exact h
  | .int x, b, h => by cases b <;> simp [same] at h ⊢; exact h
  | .str x, b, h => by cases b <;> simp [same] at h ⊢; exact h
  | .list xs, b, h => by
    cases b <;> simp [same] at h ⊢
    exact eq_of_sames _ _ h
  | .tuple xs, b, h => by
    cases b <;> simp [same] at h ⊢
    exact eq_of_sames _ _ h
  | .dict xs, b, h => by cases b <;> simp [same] at h
theorem eq_of_sames : ∀ a b : List D, sames a b = true → a = b
  | [], b, h => by cases b <;> simp [sames] at h ⊢
  | a :: as, b, h => by
    cases b with
    | nil => simp [sames] at h
    | cons b bs =>
      simp [sames] at h
      rw [eq_of_same a b h.1, eq_of_sames as bs h.2]
end

inductive Val where
  | d (x : D)
  | cell (i : Nat)
  | fn (i : Nat)
  /-- a list that others hold, read alone -/
  | fz (xs : List D)

inductive Cell where
  | lst (xs : List D)
  | dct (kvs : List (D × D))
  | dead

abbrev Sto := List Cell
abbrev En := List (Option Val)

inductive R (α : Type) where
  | ok (a : α)
  | exc (c : Nat) (st : Sto)
  | bad

def R.bind {α β : Type} : R α → (α → R β) → R β
  | .ok a, f => f a
  | .exc c st, _ => .exc c st
  | .bad, _ => .bad
instance : Monad R where
  pure := .ok
  bind := R.bind
theorem ok_bind {α β : Type} (a : α) (f : α → R β) : (R.ok a >>= f) = f a := rfl
theorem bad_bind {α β : Type} (f : α → R β) : (R.bad >>= f) = R.bad := rfl
theorem exc_bind {α β : Type} (c : Nat) (st : Sto) (f : α → R β) : ((R.exc c st : R α) >>= f) = R.exc c st := rfl
def R.noexc {α : Type} : R α → R α
  | .ok a => .ok a
  | _ => .bad
def ofOpt {α : Type} : Option α → R α
  | some a => .ok a
  | none => .bad

/-- the greatest length -/
def LIM : Nat := 16777216

inductive Op where | add | sub | mul | fdiv | mod | pow | shl
  deriving DecidableEq
inductive Cm where | eq | ne | lt | le | gt | ge | isin | notin
  deriving DecidableEq
inductive Bi where | len | abs | int | tuple | min2 | max2 | min1 | max1 | all | any | sum
  deriving DecidableEq
inductive Ty where | int | bool | str | tuple | list
  deriving DecidableEq

mutual
inductive Tg where
  | nm (i : Nat)
  | tp (ts : Tgs)
inductive Tgs where
  | nil
  | cons (t : Tg) (ts : Tgs)
end

mutual
inductive Ex where
  | v (i : Nat)
  | gl (x : String) (c : D)
  | lit (c : D)
  | bin (o : Op) (a b : Ex)
  | neg (a : Ex)
  | nt (a : Ex)
  | cmp (c : Cm) (a b : Ex)
  | chain (c c' : Cm) (a b e : Ex)
  | isN (a : Ex)
  | notN (a : Ex)
  | and (es : Exs)
  | or (es : Exs)
  | ite (c : Te) (a b : Ex)
  | ix (a i : Ex)
  | sl (a : Ex) (lo hi : Po)
  | tup (es : Exs)
  | nw (n : Nw)
  | cellOf (n : Nw)
  | frz (a : Ex)
  | call (f : Nat) (es : Exs)
  | bi (b : Bi) (es : Exs)
  | isi (a : Ex) (t : Ty)
  | append (a e : Ex)
  | pop (a : Ex)
  | popAt (a e : Ex)
  | minD (a e : Ex)
inductive Te where
  | nt (t : Te)
  | and (ts : Tes)
  | or (ts : Tes)
  | e (a : Ex)
inductive Tes where
  | nil
  | cons (t : Te) (ts : Tes)
inductive Po where
  | no
  | at (e : Ex)
inductive Exs where
  | nil
  | cons (e : Ex) (es : Exs)
inductive Nw where
  | disp (es : Exs)
  | comp (tg : Tg) (src : Sr) (ifs : Tes) (e : Ex) (own : List Nat)
  | ofSeq (a : Ex)
inductive Sr where
  | ex (e : Ex)
  | rng1 (a : Ex)
  | rng2 (a b : Ex)
  | rng3 (a b c : Ex)
  | zip (a b : Ex)
  | enum (a : Ex)
  | enumz (a b : Ex)
end

mutual
inductive Stm where
  | asg (tg : Tg) (e : Ex)
  | par2 (i j : Nat) (a b : Ex)
  | expr (e : Ex)
  | ret (e : Ex)
  | retN
  | ifs (c : Te) (a b : Stms)
  | for_ (tg : Tg) (src : Sr) (body : Stms)
  | while_ (fuel : Nat) (c : Te) (body : Stms)
  | brk
  | cont
  | setIx (a i e : Ex)
  | never
inductive Stms where
  | nil
  | cons (s : Stm) (ss : Stms)
end

structure Fn where
  name : String
  np : Nat
  N : List String
  body : Stms
  keepCells : Bool := false

/-! ### plain operations -/
def cellLst (st : Sto) (i : Nat) : Option (List D) := match st[i]? with
  | some (.lst xs) => some xs
  | _ => none
/-- the items of a list or tuple -/
def seqOf (st : Sto) : Val → Option (List D)
  | .d (.list xs) => some xs
  | .d (.tuple xs) => some xs
  | .cell i => cellLst st i
  | .fz xs => some xs
  | _ => none
/-- the items of a list -/
def lstOf (st : Sto) : Val → Option (List D)
  | .d (.list xs) => some xs
  | .cell i => cellLst st i
  | _ => none
def dataOf (st : Sto) : Val → Option D
  | .d x => some x
  | .cell i => (cellLst st i).map .list
  | _ => none
def plain : Val → Option D
  | .d x => some x
  | _ => none

def mulOk (i j : Int) : Bool := (decide (-(2 ^ 64) < i) && decide (i < 2 ^ 64)) || (decide (-(2 ^ 64) < j) && decide (j < 2 ^ 64)) || decide (i.natAbs.log2 + j.natAbs.log2 < 1000000)
def powOk (i j : Int) : Bool := decide (0 ≤ j) && decide (j ≤ 1000000) && decide (i.natAbs < 2 ^ 64)
def opD : Op → D → D → Option D
  | .add, .int i, .int j => some (.int (i + j))
  | .add, .tuple xs, .tuple ys => if xs.length + ys.length ≤ LIM then some (.tuple (xs ++ ys)) else none
  | .add, .list xs, .list ys => if xs.length + ys.length ≤ LIM then some (.list (xs ++ ys)) else none
  | .sub, .int i, .int j => some (.int (i - j))
  | .mul, .int i, .int j => if mulOk i j then some (.int (i * j)) else none
  | .mul, .list xs, .int j => if decide (-(2 ^ 63) ≤ j) && decide (j < 2 ^ 63) && decide (xs.length * j.toNat ≤ LIM) then some (.list (List.replicate j.toNat xs).flatten) else none
  | .mul, .tuple xs, .int j => if !xs.isEmpty && decide (2 ≤ j) && decide (j ≤ 1000) && decide (xs.length ≤ 1000) then some (.tuple (List.replicate j.toNat xs).flatten) else none
  | .fdiv, .int i, .int j => if decide (0 < j) && decide (j.natAbs.log2 < 9000) then some (.int (i / j)) else none
  | .mod, .int i, .int j => if decide (0 < j) then some (.int (i % j)) else none
  | .pow, .int i, .int j => if powOk i j then some (.int (i ^ j.toNat)) else none
  | .shl, .int i, .int j => if powOk i j then some (.int (i * 2 ^ j.toNat)) else none
  | _, _, _ => none
def opV (st : Sto) (o : Op) (x y : Val) : Option D := do opD o (← dataOf st x) (← dataOf st y)

def eqD (x y : D) : Option Bool := match x, y with
  | .int i, .int j => some (decide (i = j))
  | x, y => if SeqAt.shaped x && SeqAt.shaped y then some (PyData.eqv x y) else none
def inD (x : D) (y : D) : Option Bool := match y with
  | .list ys => if SeqAt.shaped x && SeqAt.shaped (.list ys) then some (ys.any fun z => PyData.eqv z x) else none
  | .tuple ys => if SeqAt.shaped x && SeqAt.shaped (.tuple ys) then some (ys.any fun z => PyData.eqv z x) else none
  | _ => none
def cmD : Cm → D → D → Option Bool
  | .eq, x, y => eqD x y
  | .ne, x, y => (eqD x y).map not
  | .lt, .int i, .int j => some (decide (i < j))
  | .le, .int i, .int j => some (decide (i ≤ j))
  | .gt, .int i, .int j => some (decide (j < i))
  | .ge, .int i, .int j => some (decide (j ≤ i))
  | .isin, x, y => inD x y
  | .notin, x, y => (inD x y).map not
  | _, _, _ => none
def cmV (st : Sto) (c : Cm) (x y : Val) : Option Bool := do cmD c (← dataOf st x) (← dataOf st y)

def truth (st : Sto) : Val → Option Bool
  | .d .none => some false
  | .d (.bool b) => some b
  | .d (.int i) => some (i != 0)
  | .d (.list xs) => some (!xs.isEmpty)
  | .d (.tuple xs) => some (!xs.isEmpty)
  | .cell i => (cellLst st i).map fun xs => !xs.isEmpty
  | _ => none
def boolOf : Val → Option Bool
  | .d (.bool b) => some b
  | _ => none
def isNone : Val → Bool
  | .d .none => true
  | _ => false

def ixD (xs : List D) (y : Val) : Option D := match y with
  | .d (.int i) => L2.atI xs i
  | _ => none
def ixV (st : Sto) (x y : Val) : Option D := do ixD (← seqOf st x) y

def cutD (xs : List D) (lo hi : Option Int) : List D := (xs.drop (HT.sIx xs.length 0 lo)).take (HT.sIx xs.length xs.length hi - HT.sIx xs.length 0 lo)
def slV (st : Sto) (x : Val) (lo hi : Option Int) : Option D := match x with
  | .d (.list xs) => some (.list (cutD xs lo hi))
  | .d (.tuple xs) => some (.tuple (cutD xs lo hi))
  | .cell i => (cellLst st i).map fun xs => .list (cutD xs lo hi)
  | _ => none

def intsOf : List D → Option (List Int)
  | [] => some []
  | .int i :: r => (intsOf r).map (i :: ·)
  | _ => none
def boolsOf : List D → Option (List Bool)
  | [] => some []
  | .bool b :: r => (boolsOf r).map (b :: ·)
  | _ => none
def minI : List Int → Option Int
  | [] => none
  | [a] => some a
  | a :: r => (minI r).map fun b => if a ≤ b then a else b
def maxI : List Int → Option Int
  | [] => none
  | [a] => some a
  | a :: r => (maxI r).map fun b => if b ≤ a then a else b

def biV (st : Sto) : Bi → List Val → Option D
  | .len, [x] => (seqOf st x).map fun xs => .int xs.length
  | .abs, [.d (.int i)] => some (.int (if i < 0 then -i else i))
  | .int, [.d (.int i)] => some (.int i)
  | .int, [.d (.bool b)] => some (.int (if b then 1 else 0))
  | .tuple, [x] => (seqOf st x).map .tuple
  | .min2, [.d (.int i), .d (.int j)] => some (.int (if j < i then j else i))
  | .max2, [.d (.int i), .d (.int j)] => some (.int (if j > i then j else i))
  | .min1, [x] => do some (.int (← minI (← intsOf (← lstOf st x))))
  | .max1, [x] => do some (.int (← maxI (← intsOf (← lstOf st x))))
  | .all, [x] => do some (.bool ((← boolsOf (← lstOf st x)).all id))
  | .any, [x] => do some (.bool ((← boolsOf (← lstOf st x)).any id))
  | .sum, [x] => do some (.int (← intsOf (← lstOf st x)).sum)
  | _, _ => none

def isTy : Ty → Val → Bool
  | .int, .d (.int _) => true
  | .int, .d (.bool _) => true
  | .bool, .d (.bool _) => true
  | .str, .d (.str _) => true
  | .tuple, .d (.tuple _) => true
  | .list, .d (.list _) => true
  | .list, .cell _ => true
  | _, _ => false

/-! ### targets -/
mutual
def asgT : Tg → D → En → Option En
  | .nm i, x, env => if i < env.length then some (env.set i (some (.d x))) else none
  | .tp ts, .tuple xs, env => asgTs ts xs env
  | .tp _, _, _ => none
def asgTs : Tgs → List D → En → Option En
  | .nil, [], env => some env
  | .cons t ts, x :: xs, env => match asgT t x env with
    | some env1 => asgTs ts xs env1
    | none => none
  | _, _, _ => none
end
def asgV (t : Tg) (x : Val) (env : En) : Option En := match t, x with
  | .nm i, x => if i < env.length then some (env.set i (some x)) else none
  | t, .d x => asgT t x env
  | _, _ => none
def wipeE (env : En) : List Nat → En
  | [] => env
  | i :: is => (wipeE env is).set i none

/-! ### loops -/
def guardOk (g : Option Nat) (st st' : Sto) : Bool := match g with
  | none => true
  | some i => match cellLst st i, cellLst st' i with
    | some xs, some ys => sames xs ys
    | _, _ => false
def compL (f : D → Sto → R (Option D × Sto)) (g : Option Nat) : List D → Sto → R (List D × Sto)
  | [], st => .ok ([], st)
  | x :: r, st => match f x st with
    | .ok (y, st1) => if guardOk g st st1 then (match compL f g r st1 with
      | .ok (ys, st2) => .ok (y.toList ++ ys, st2)
      | _ => .bad) else .bad
    | _ => .bad
def compF (fi : En → Sto → R (Bool × Sto)) (fe : En → Sto → R (Val × Sto)) (tg : Tg) (env : En) (x : D) (st : Sto) : R (Option D × Sto) :=
  match asgT tg x env with
  | none => .bad
  | some env1 => match fi env1 st with
    | .ok (false, st1) => .ok (none, st1)
    | .ok (true, st1) => (match fe env1 st1 with
      | .ok (.d y, st2) => .ok (some y, st2)
      | _ => .bad)
    | _ => .bad
inductive Out where
  | nx (env : En)
  | rt (x : Val)
  | bk (env : En)
  | ct (env : En)
def forL (f : D → En → Sto → R (Out × Sto)) (g : Option Nat) : List D → En → Sto → R (Out × Sto)
  | [], env, st => .ok (.nx env, st)
  | x :: r, env, st => match f x env st with
    | .ok (.nx env1, st1) => if guardOk g st st1 then forL f g r env1 st1 else .bad
    | .ok (.ct env1, st1) => if guardOk g st st1 then forL f g r env1 st1 else .bad
    | .ok (.bk env1, st1) => .ok (.nx env1, st1)
    | .ok (.rt x, st1) => .ok (.rt x, st1)
    | .exc c st1 => .exc c st1
    | .bad => .bad
def forF (f : En → Sto → R (Out × Sto)) (tg : Tg) (x : D) (env : En) (st : Sto) : R (Out × Sto) :=
  match asgT tg x env with
  | none => .bad
  | some env1 => f env1 st
def whileL (c : En → Sto → R (Bool × Sto)) (f : En → Sto → R (Out × Sto)) : Nat → En → Sto → R (Out × Sto)
  | 0, _, _ => .bad
  | n + 1, env, st => match c env st with
    | .ok (true, st0) => (match f env st0 with
      | .ok (.nx env1, st1) => whileL c f n env1 st1
      | .ok (.ct env1, st1) => whileL c f n env1 st1
      | .ok (.bk env1, st1) => .ok (.nx env1, st1)
      | .ok (.rt x, st1) => .ok (.rt x, st1)
      | .exc c st1 => .exc c st1
      | .bad => .bad)
    | .ok (false, st0) => .ok (.nx env, st0)
    | .exc c st1 => .exc c st1
    | .bad => .bad

def zipD : List D → List D → List D
  | x :: xs, y :: ys => .tuple [x, y] :: zipD xs ys
  | _, _ => []
def enumD : Nat → List D → List D
  | _, [] => []
  | n, x :: xs => .tuple [.int n, x] :: enumD (n + 1) xs
def rngD (lo : Int) : Nat → List D
  | 0 => []
  | n + 1 => .int lo :: rngD (lo + 1) n
def rngC (lo c : Int) : Nat → List D
  | 0 => []
  | n + 1 => .int lo :: rngC (lo + c) c n
def bd62 (i : Int) : Bool := decide (-(2 ^ 62) ≤ i) && decide (i < 2 ^ 62)
def guardOf : Val → Option Nat
  | .cell i => some i
  | _ => none

def popR (st : Sto) (i : Nat) (xs : List D) (k : Int) : R (Val × Sto) :=
  if decide (0 ≤ k) && decide (k < xs.length) && decide (xs.length ≤ LIM) then (match xs[k.toNat]? with
    | some z => .ok (.d z, st.set i (.lst (xs.eraseIdx k.toNat)))
    | none => .bad) else .bad
def boolIte {α : Type} (b : Bool) (x y : α) : α := if b = true then x else y

/-! ### the interpreter -/
abbrev CallF := Nat → List Val → Sto → R (Val × Sto)
section
variable (cal : CallF)
mutual
def evalE : Ex → En → Sto → R (Val × Sto)
  | .v i, env, st => match env[i]? with
    | some (some x) => .ok (x, st)
    | _ => .bad
  | .gl _ c, _, st => .ok (.d c, st)
  | .lit c, _, st => .ok (.d c, st)
  | .bin o a b, env, st => do
    let (x, st) ← evalE a env st
    let (y, st) ← evalE b env st
    let z ← ofOpt (opV st o x y)
    .ok (.d z, st)
  | .neg a, env, st => do
    let (x, st) ← evalE a env st
    match x with
    | .d (.int i) => .ok (.d (.int (-i)), st)
    | _ => .bad
  | .nt a, env, st => do
    let (x, st) ← evalE a env st
    let b ← ofOpt (boolOf x)
    .ok (.d (.bool (!b)), st)
  | .cmp c a b, env, st => do
    let (x, st) ← evalE a env st
    let (y, st) ← evalE b env st
    let z ← ofOpt (cmV st c x y)
    .ok (.d (.bool z), st)
  | .chain c c' a b e, env, st => do
    let (x, st) ← evalE a env st
    let (y, st) ← evalE b env st
    let z ← ofOpt (cmV st c x y)
    if z then
      let (w, st) ← evalE e env st
      let z' ← ofOpt (cmV st c' y w)
      .ok (.d (.bool z'), st)
    else .ok (.d (.bool false), st)
  | .isN a, env, st => do
    let (x, st) ← evalE a env st
    .ok (.d (.bool (isNone x)), st)
  | .notN a, env, st => do
    let (x, st) ← evalE a env st
    .ok (.d (.bool (!isNone x)), st)
  | .and es, env, st => evalAnd es env st
  | .or es, env, st => evalOr es env st
  | .ite c a b, env, st => do
    let (z, st) ← evalT c env st
    if z then evalE a env st else evalE b env st
  | .ix a i, env, st => do
    let (x, st) ← evalE a env st
    let (y, st) ← evalE i env st
    let z ← ofOpt (ixV st x y)
    .ok (.d z, st)
  | .sl a lo hi, env, st => do
    let (x, st) ← evalE a env st
    let (l, st) ← evalPo lo env st
    let (h, st) ← evalPo hi env st
    let z ← ofOpt (slV st x l h)
    .ok (.d z, st)
  | .tup es, env, st => do
    let (xs, st) ← evalDs es env st
    if xs.length ≤ LIM then .ok (.d (.tuple xs), st) else .bad
  | .nw n, env, st => do
    let (xs, st) ← evalN n env st
    .ok (.d (.list xs), st)
  | .cellOf n, env, st => do
    let (xs, st) ← evalN n env st
    .ok (.cell st.length, st ++ [.lst xs])
  | .frz a, env, st => do
    let (x, st) ← evalE a env st
    match x with
    | .cell i => match cellLst st i with
      | some xs => .ok (.d (.list xs), st.set i .dead)
      | none => .bad
    | _ => .bad
  | .call f es, env, st => do
    let (xs, st) ← evalEs es env st
    cal f xs st
  | .bi b es, env, st => do
    let (xs, st) ← evalEs es env st
    let z ← ofOpt (biV st b xs)
    .ok (.d z, st)
  | .isi a t, env, st => do
    let (x, st) ← evalE a env st
    match x with
    | .d (.dict _) => .bad
    | .fn _ => .bad
    | .fz _ => .bad
    | .cell i => (match cellLst st i with
      | some _ => .ok (.d (.bool (isTy t (.cell i))), st)
      | none => .bad)
    | x => .ok (.d (.bool (isTy t x)), st)
  | .append a e, env, st => do
    let (x, st) ← evalE a env st
    match x with
    | .cell i => match cellLst st i with
      | none => .bad
      | some _ => do
        let (y, st) ← evalE e env st
        let y ← ofOpt (plain y)
        match cellLst st i with
        | some xs => if xs.length < LIM then .ok (.d .none, st.set i (.lst (xs ++ [y]))) else .bad
        | none => .bad
    | _ => .bad
  | .pop a, env, st => do
    let (x, st) ← evalE a env st
    match x with
    | .cell i => match cellLst st i with
      | some xs => match xs[xs.length - 1]? with
        | some y => .ok (.d y, st.set i (.lst xs.dropLast))
        | none => .bad
      | none => .bad
    | _ => .bad
  | .popAt a e, env, st => do
    let (x, st) ← evalE a env st
    match x with
    | .cell i => match cellLst st i with
      | none => .bad
      | some _ => do
        let (y, st) ← evalE e env st
        match y, cellLst st i with
        | .d (.int k), some xs => popR st i xs k
        | _, _ => .bad
    | _ => .bad
  | .minD a e, env, st => do
    let (x, st) ← evalE a env st
    let (y, st) ← evalE e env st
    let xs ← ofOpt (lstOf st x)
    match xs, y with
    | [], .d y => .ok (.d y, st)
    | xs, .d _ => do
      let ns ← ofOpt (intsOf xs)
      let m ← ofOpt (minI ns)
      .ok (.d (.int m), st)
    | _, _ => .bad
termination_by structural x => x
def evalT : Te → En → Sto → R (Bool × Sto)
  | .nt a, env, st => do
    let (b, st) ← evalT a env st
    .ok (!b, st)
  | .and es, env, st => evalAndT es env st
  | .or es, env, st => evalOrT es env st
  | .e a, env, st => do
    let (x, st) ← evalE a env st
    let b ← ofOpt (truth st x)
    .ok (b, st)
termination_by structural x => x
def evalPo : Po → En → Sto → R (Option Int × Sto)
  | .no, _, st => .ok (none, st)
  | .at e, env, st => do
    let (x, st) ← evalE e env st
    match x with
    | .d (.int i) => .ok (some i, st)
    | _ => .bad
termination_by structural x => x
def evalEs : Exs → En → Sto → R (List Val × Sto)
  | .nil, _, st => .ok ([], st)
  | .cons e es, env, st => do
    let (x, st) ← evalE e env st
    let (xs, st) ← evalEs es env st
    .ok (x :: xs, st)
termination_by structural x => x
def evalDs : Exs → En → Sto → R (List D × Sto)
  | .nil, _, st => .ok ([], st)
  | .cons e es, env, st => do
    let (x, st) ← evalE e env st
    let x ← ofOpt (plain x)
    let (xs, st) ← evalDs es env st
    .ok (x :: xs, st)
termination_by structural x => x
def evalAnd : Exs → En → Sto → R (Val × Sto)
  | .nil, _, _ => .bad
  | .cons e .nil, env, st => evalE e env st
  | .cons e es, env, st => do
    let (x, st) ← evalE e env st
    let b ← ofOpt (boolOf x)
    if b then evalAnd es env st else .ok (.d (.bool false), st)
termination_by structural x => x
def evalOr : Exs → En → Sto → R (Val × Sto)
  | .nil, _, _ => .bad
  | .cons e .nil, env, st => evalE e env st
  | .cons e es, env, st => do
    let (x, st) ← evalE e env st
    let b ← ofOpt (boolOf x)
    if b then .ok (.d (.bool true), st) else evalOr es env st
termination_by structural x => x
def evalAndT : Tes → En → Sto → R (Bool × Sto)
  | .nil, _, _ => .bad
  | .cons e .nil, env, st => evalT e env st
  | .cons e es, env, st => do
    let (b, st) ← evalT e env st
    if b then evalAndT es env st else .ok (false, st)
termination_by structural x => x
def evalOrT : Tes → En → Sto → R (Bool × Sto)
  | .nil, _, _ => .bad
  | .cons e .nil, env, st => evalT e env st
  | .cons e es, env, st => do
    let (b, st) ← evalT e env st
    if b then .ok (true, st) else evalOrT es env st
termination_by structural x => x
def evalIfs : Tes → En → Sto → R (Bool × Sto)
  | .nil, _, st => .ok (true, st)
  | .cons e .nil, env, st => evalT e env st
  | .cons _ _, _, _ => .bad
termination_by structural x => x
def evalN : Nw → En → Sto → R (List D × Sto)
  | .disp es, env, st => do
    let (xs, st) ← evalDs es env st
    if xs.length ≤ LIM then .ok (xs, st) else .bad
  | .comp tg src ifs e own, env, st => do
    let ((xs, g), st) ← evalSr src env st
    if xs.length ≤ LIM then
      compL (compF (evalIfs ifs) (evalE e) tg (wipeE env own)) g xs st
    else .bad
  | .ofSeq a, env, st => do
    let (x, st) ← evalE a env st
    let xs ← ofOpt (seqOf st x)
    .ok (xs, st)
termination_by structural x => x
def evalSr : Sr → En → Sto → R ((List D × Option Nat) × Sto)
  | .ex e, env, st => do
    let (x, st) ← evalE e env st
    let xs ← ofOpt (seqOf st x)
    .ok ((xs, guardOf x), st)
  | .rng1 a, env, st => do
    let (x, st) ← evalE a env st
    match x with
    | .d (.int i) => if bd62 i then .ok ((rngD 0 i.toNat, none), st) else .bad
    | _ => .bad
  | .rng2 a b, env, st => do
    let (x, st) ← evalE a env st
    let (y, st) ← evalE b env st
    match x, y with
    | .d (.int i), .d (.int j) => if bd62 i && bd62 j then .ok ((rngD i (j - i).toNat, none), st) else .bad
    | _, _ => .bad
  | .rng3 a b c, env, st => do
    let (x, st) ← evalE a env st
    let (y, st) ← evalE b env st
    let (z, st) ← evalE c env st
    match x, y, z with
    | .d (.int i), .d (.int j), .d (.int (-1)) => if bd62 i && bd62 j then .ok ((rngC i (-1) (i - j).toNat, none), st) else .bad
    | _, _, _ => .bad
  | .zip a b, env, st => do
    let (x, st) ← evalE a env st
    let (y, st) ← evalE b env st
    match x, y with
    | .d (.list xs), .d (.list ys) => .ok ((zipD xs ys, none), st)
    | .d (.tuple xs), .d (.tuple ys) => .ok ((zipD xs ys, none), st)
    | _, _ => .bad
  | .enum a, env, st => do
    let (x, st) ← evalE a env st
    match x with
    | .d (.list xs) => .ok ((enumD 0 xs, none), st)
    | _ => .bad
  | .enumz a b, env, st => do
    let (x, st) ← evalE a env st
    let (y, st) ← evalE b env st
    match x, y with
    | .d (.tuple xs), .d (.tuple ys) => .ok ((enumD 0 (zipD xs ys), none), st)
    | _, _ => .bad
termination_by structural x => x
end

mutual
def execS : Stm → En → Sto → R (Out × Sto)
  | .asg tg e, env, st => do
    let (x, st) ← evalE cal e env st
    let env1 ← ofOpt (asgV tg x env)
    .ok (.nx env1, st)
  | .par2 i j a b, env, st => do
    let (x, st) ← evalE cal a env st
    let (y, st) ← evalE cal b env st
    if decide (i < env.length) && decide (j < env.length) then .ok (.nx ((env.set i (some x)).set j (some y)), st) else .bad
  | .expr e, env, st => do
    let (_, st) ← evalE cal e env st
    .ok (.nx env, st)
  | .ret e, env, st => do
    let (x, st) ← evalE cal e env st
    .ok (.rt x, st)
  | .retN, _, st => .ok (.rt (.d .none), st)
  | .ifs c a b, env, st => do
    let (z, st) ← evalT cal c env st
    if z then execSs a env st else execSs b env st
  | .for_ tg src body, env, st => do
    let ((xs, g), st) ← evalSr cal src env st
    forL (forF (execSs body) tg) g xs env st
  | .while_ n c body, env, st => whileL (evalT cal c) (execSs body) n env st
  | .brk, env, st => .ok (.bk env, st)
  | .cont, env, st => .ok (.ct env, st)
  | .setIx a i e, env, st => do
    let (y, st) ← evalE cal e env st
    let y ← ofOpt (plain y)
    let (x, st) ← evalE cal a env st
    let (k, st) ← evalE cal i env st
    match x, k with
    | .cell c, .d (.int k) => match cellLst st c with
      | some xs => match L2.ixN xs.length k with
        | some j => .ok (.nx env, st.set c (.lst (xs.set j y)))
        | none => .bad
      | none => .bad
    | _, _ => .bad
  | .never, _, _ => .bad
termination_by structural x => x
def execSs : Stms → En → Sto → R (Out × Sto)
  | .nil, env, st => .ok (.nx env, st)
  | .cons s ss, env, st => match execS s env st with
    | .ok (.nx env1, st1) => execSs ss env1 st1
    | .ok (.rt x, st1) => .ok (.rt x, st1)
    | .ok (.bk e, st1) => .ok (.bk e, st1)
    | .ok (.ct e, st1) => .ok (.ct e, st1)
    | .exc c st1 => .exc c st1
    | .bad => .bad
termination_by structural x => x
end
end

def finish (n : Nat) : R (Out × Sto) → R (Val × Sto)
  | .ok (.nx _, st) => .ok (.d .none, st.take n)
  | .ok (.rt (.d x), st) => .ok (.d x, st.take n)
  | .ok (.rt x, st) => .ok (x, st)
  | .exc c st => .exc c (st.take n)
  | _ => .bad
def callF (fs : List Fn) : Nat → CallF
  | 0 => fun _ _ _ => .bad
  | k + 1 => fun f args st => match fs[f]? with
    | some F => if args.length = F.np then finish st.length (execSs (callF fs k) F.body (args.map some ++ List.replicate (F.N.length - F.np) none) st) else .bad
    | none => .bad
end Py

set_option Elab.async false
set_option linter.all false
set_option maxRecDepth 100000
/-! IA: plain data in the abstract heap; cells; steps -/
namespace Py
open PySem PySem.Spec PyProof.Rows L2

structure GG where
  K : PySem.W.Frag
  ca : Nat → Addr
  fa : Nat → Addr

def LRd (K : PySem.W.Frag) (H : Hp) (L : Addr → Prop) (a : Addr) (xs : List V) : Prop := H a = some (.lst xs) ∧ ¬ L a
theorem LRd.sq {K : PySem.W.Frag} {H : Hp} {L : Addr → Prop} {a : Addr} {xs : List V} (h : LRd K H L a xs) : SqL K H a xs := .inl (.inl h.1)

mutual
inductive Dv (K : PySem.W.Frag) (H : Hp) (L : Addr → Prop) : V → D → Prop
  | non : Dv K H L .non .none
  | bl (b : Bool) : Dv K H L (.bl b) (.bool b)
  | int (i : Int) : Dv K H L (.int i) (.int i)
  | str (x : Str) : Dv K H L (.str x) (.str x)
  | lst {a : Addr} {xs : List V} {ds : List D} : LRd K H L a xs → DvAll K H L xs ds → Dv K H L (.ref a) (.list ds)
  | tup {a : Addr} {xs : List V} {ds : List D} : SqT K H a xs → DvAll K H L xs ds → Dv K H L (.ref a) (.tuple ds)
inductive DvAll (K : PySem.W.Frag) (H : Hp) (L : Addr → Prop) : List V → List D → Prop
  | nil : DvAll K H L [] []
  | cons {v : V} {vs : List V} {d : D} {ds : List D} : Dv K H L v d → DvAll K H L vs ds → DvAll K H L (v :: vs) (d :: ds)
end

def Imm : HO → Prop
  | .tup _ => True
  | .frz _ _ => True
  | _ => False
structure Kp (L : Addr → Prop) (H : Hp) (L' : Addr → Prop) (H' : Hp) : Prop where
  keep : ∀ a o, H a = some o → ¬ L a → H' a = some o ∧ ¬ L' a
  imm : ∀ a o, H a = some o → Imm o → H' a = some o
theorem Kp.refl {L : Addr → Prop} {H : Hp} : Kp L H L H := ⟨fun _ _ h n => ⟨h, n⟩, fun _ _ h _ => h⟩
theorem Kp.trans {L L1 L2 : Addr → Prop} {H H1 H2 : Hp} (a : Kp L H L1 H1) (b : Kp L1 H1 L2 H2) : Kp L H L2 H2 :=
  ⟨fun x o h n => let ⟨h1, n1⟩ := a.keep x o h n; b.keep x o h1 n1, fun x o h i => b.imm x o (a.imm x o h i) i⟩

section
variable {K : PySem.W.Frag} {L L' : Addr → Prop} {H H' : Hp}
theorem LRd.kp {a : Addr} {xs : List V} (h : LRd K H L a xs) (k : Kp L H L' H') : LRd K H' L' a xs := k.keep a _ h.1 h.2
theorem sqT_kp {a : Addr} {xs : List V} (h : SqT K H a xs) (k : Kp L H L' H') : SqT K H' a xs := by
  rcases h with (h | ⟨o, h⟩) | h
  · exact .inl (.inl (k.imm a _ h trivial))
  · exact .inl (.inr ⟨o, k.imm a _ h trivial⟩)
  · exact .inr h
mutual
theorem Dv.kp (k : Kp L H L' H') : ∀ {v : V} {d : D}, Dv K H L v d → Dv K H' L' v d
  | _, _, .non => .non
  | _, _, .bl b => .bl b
  | _, _, .int i => .int i
  | _, _, .str x => .str x
  | _, _, .lst h a => .lst (h.kp k) (DvAll.kp k a)
  | _, _, .tup h a => .tup (sqT_kp h k) (DvAll.kp k a)
theorem DvAll.kp (k : Kp L H L' H') : ∀ {v : List V} {d : List D}, DvAll K H L v d → DvAll K H' L' v d
  | _, _, .nil => .nil
  | _, _, .cons h a => .cons (Dv.kp k h) (DvAll.kp k a)
end
mutual
theorem Dv.dp : ∀ {v : V} {d : D}, Dv K H L v d → Dp K H v d
  | _, _, .non => .non
  | _, _, .bl b => .bl b
  | _, _, .int i => .int i
  | _, _, .str x => .str x
  | _, _, .lst h a => .lst h.sq (DvAll.dp a)
  | _, _, .tup h a => .tup h (DvAll.dp a)
theorem DvAll.dp : ∀ {v : List V} {d : List D}, DvAll K H L v d → DpAll K H v d
  | _, _, .nil => .nil
  | _, _, .cons h a => .cons (Dv.dp h) (DvAll.dp a)
end
theorem DvAll.length : ∀ {v : List V} {d : List D}, DvAll K H L v d → v.length = d.length
  | _, _, .nil => rfl
  | _, _, .cons h a => by simp [DvAll.length a]
theorem DvAll.get : ∀ {v : List V} {d : List D} {i : Nat} {x : D}, DvAll K H L v d → d[i]? = some x → ∃ y, v[i]? = some y ∧ Dv K H L y x
  | _, _, _, _, .nil, e => by simp at e
  | _, _, 0, _, .cons h a, e => by simp at e; subst e; exact ⟨_, rfl, h⟩
  | _, _, i + 1, _, .cons h a, e => by
    simp at e
    obtain ⟨y, e1, e2⟩ := DvAll.get (i := i) a e
    exact ⟨y, by simpa using e1, e2⟩
theorem DvAll.get' : ∀ {v : List V} {d : List D} {i : Nat} {y : V}, DvAll K H L v d → v[i]? = some y → ∃ x, d[i]? = some x ∧ Dv K H L y x
  | _, _, _, _, .nil, e => by simp at e
  | _, _, 0, _, .cons h a, e => by simp at e; subst e; exact ⟨_, rfl, h⟩
  | _, _, i + 1, _, .cons h a, e => by
    simp at e
    obtain ⟨y, e1, e2⟩ := DvAll.get' (i := i) a e
    exact ⟨y, by simpa using e1, e2⟩
theorem DvAll.append : ∀ {v w : List V} {d e : List D}, DvAll K H L v d → DvAll K H L w e → DvAll K H L (v ++ w) (d ++ e)
  | _, _, _, _, .nil, h => h
  | _, _, _, _, .cons a b, h => .cons a (DvAll.append b h)
theorem DvAll.set {y : V} {x : D} (h : Dv K H L y x) : ∀ {v : List V} {d : List D} (i : Nat), DvAll K H L v d → DvAll K H L (v.set i y) (d.set i x)
  | _, _, _, .nil => .nil
  | _, _, 0, .cons a b => .cons h b
  | _, _, i + 1, .cons a b => .cons a (DvAll.set h i b)
theorem DvAll.take : ∀ {v : List V} {d : List D} (n : Nat), DvAll K H L v d → DvAll K H L (v.take n) (d.take n)
  | _, _, 0, _ => by simpa using DvAll.nil
  | _, _, n + 1, .nil => .nil
  | _, _, n + 1, .cons a b => .cons a (DvAll.take n b)
theorem DvAll.drop : ∀ {v : List V} {d : List D} (n : Nat), DvAll K H L v d → DvAll K H L (v.drop n) (d.drop n)
  | _, _, 0, h => h
  | _, _, n + 1, .nil => .nil
  | _, _, n + 1, .cons a b => DvAll.drop n b
theorem DvAll.eraseIdx : ∀ {v : List V} {d : List D} (n : Nat), DvAll K H L v d → DvAll K H L (v.eraseIdx n) (d.eraseIdx n)
  | _, _, _, .nil => .nil
  | _, _, 0, .cons a b => b
  | _, _, n + 1, .cons a b => .cons a (DvAll.eraseIdx n b)
theorem DvAll.dropLast : ∀ {v : List V} {d : List D}, DvAll K H L v d → DvAll K H L v.dropLast d.dropLast
  | _, _, .nil => .nil
  | _, _, .cons a .nil => .nil
  | _, _, .cons a (.cons b c) => .cons a (DvAll.dropLast (.cons b c))
theorem DvAll.rep {v : List V} {d : List D} (h : DvAll K H L v d) : ∀ k : Nat, DvAll K H L (List.replicate k v).flatten (List.replicate k d).flatten
  | 0 => .nil
  | k + 1 => by
    rw [List.replicate_succ, List.replicate_succ, List.flatten_cons, List.flatten_cons]
    exact h.append (DvAll.rep h k)
theorem DvAll.cut {v : List V} {d : List D} (h : DvAll K H L v d) (lo hi : Option Int) : DvAll K H L (cutV v lo hi) (cutD d lo hi) := by
  unfold cutV cutD
  rw [h.length]
  exact (h.drop _).take _
theorem DvAll.ints : ∀ {v : List V} {d : List D} {ns : List Int}, DvAll K H L v d → intsOf d = some ns → v = ns.map V.int
  | _, _, _, .nil, e => by
    have e : some [] = some _ := e
    cases e
    rfl
  | _, _, ns, .cons h a, e => by
    cases h with
    | int i =>
      unfold intsOf at e
      cases q : intsOf _ with
      | none => rw [q] at e; cases e
      | some ms =>
        rw [q] at e
        have e : some (i :: ms) = some ns := e
        cases e
        rw [DvAll.ints a q, List.map_cons]
    | _ => cases e
theorem DvAll.bools : ∀ {v : List V} {d : List D} {ns : List Bool}, DvAll K H L v d → boolsOf d = some ns → v = ns.map V.bl
  | _, _, _, .nil, e => by
    have e : some [] = some _ := e
    cases e
    rfl
  | _, _, ns, .cons h a, e => by
    cases h with
    | bl i =>
      unfold boolsOf at e
      cases q : boolsOf _ with
      | none => rw [q] at e; cases e
      | some ms =>
        rw [q] at e
        have e : some (i :: ms) = some ns := e
        cases e
        rw [DvAll.bools a q, List.map_cons]
    | _ => cases e
end

/-- what is live: outer live objects, cells that are not dead -/
def Lv (Lo : Addr → Prop) (cs : List Addr) (st : Sto) : Addr → Prop := fun a => Lo a ∨ ∃ i : Nat, cs[i]? = some a ∧ ∃ c, st[i]? = some c ∧ c ≠ Cell.dead

def CellOk (K : PySem.W.Frag) (H : Hp) (L : Addr → Prop) (a : Addr) : Cell → Prop
  | .lst xs => ∃ vs, H a = some (.lst vs) ∧ DvAll K H L vs xs
  | .dct _ => False
  | .dead => ∃ o, H a = some o
structure Wf (K : PySem.W.Frag) (Lo : Addr → Prop) (H : Hp) (cs : List Addr) (st : Sto) : Prop where
  len : cs.length = st.length
  nd : cs.Nodup
  out : ∀ a ∈ cs, ¬ Lo a
  outT : ∀ a, Lo a → ∃ xs, H a = some (.lst xs)
  cell : ∀ (i : Nat) a c, cs[i]? = some a → st[i]? = some c → CellOk K H (Lv Lo cs st) a c
structure Stp (Lo : Addr → Prop) (H : Hp) (cs : List Addr) (st : Sto) (H' : Hp) (cs' : List Addr) (st' : Sto) : Prop where
  kp : Kp (Lv Lo cs st) H (Lv Lo cs' st') H'
  out : ∀ a, Lo a → H' a = H a
  pre : cs <+: cs'
theorem Stp.refl {Lo : Addr → Prop} {H : Hp} {cs : List Addr} {st : Sto} : Stp Lo H cs st H cs st := ⟨.refl, fun _ _ => rfl, List.prefix_rfl⟩
theorem Stp.trans {Lo : Addr → Prop} {H H1 H2 : Hp} {cs cs1 cs2 : List Addr} {st st1 st2 : Sto} (a : Stp Lo H cs st H1 cs1 st1) (b : Stp Lo H1 cs1 st1 H2 cs2 st2) : Stp Lo H cs st H2 cs2 st2 :=
  ⟨a.kp.trans b.kp, fun x h => (b.out x h).trans (a.out x h), a.pre.trans b.pre⟩
theorem pre_get {cs cs' : List Addr} (p : cs <+: cs') {i : Nat} {a : Addr} (h : cs[i]? = some a) : cs'[i]? = some a := by
  obtain ⟨t, rfl⟩ := p
  rw [List.getElem?_append_left (List.getElem?_eq_some_iff.mp h).1]
  exact h

/-- a list that nobody changes -/
def FzL (K : PySem.W.Frag) (H : Hp) (a : Addr) (xs : List V) : Prop := (∃ o, H a = some (.frz o (.lst xs))) ∨
  ∃ (o : Obj) (its : Array Value) (n : Nat), K.lookup a = some o ∧ o.cls = .type "list" ∧ o.dict = none ∧ o.data = .seq its n ∧ its.size ≤ sizeLine ∧ Vals xs its.toList
theorem FzL.sq {K : PySem.W.Frag} {H : Hp} {a : Addr} {xs : List V} (h : FzL K H a xs) : SqL K H a xs := by
  rcases h with ⟨o, h⟩ | h
  · exact .inl (.inr ⟨o, h⟩)
  · exact .inr h
theorem FzL.kp {K : PySem.W.Frag} {L L' : Addr → Prop} {H H' : Hp} {a : Addr} {xs : List V} (h : FzL K H a xs) (k : Kp L H L' H') : FzL K H' a xs := by
  rcases h with ⟨o, h⟩ | h
  · exact .inl ⟨o, k.imm a _ h trivial⟩
  · exact .inr h
def RVal (G : GG) (L : Addr → Prop) (H : Hp) (cs : List Addr) : Val → V → Prop
  | .d x, v => Dv G.K H L v x
  | .cell i, v => ∃ a, v = .ref a ∧ cs[i]? = some a
  | .fn i, v => v = .ref (G.fa i)
  | .fz xs, v => ∃ a vs, v = .ref a ∧ FzL G.K H a vs ∧ DvAll G.K H L vs xs
theorem RVal.kp {G : GG} {L L' : Addr → Prop} {H H' : Hp} {cs cs' : List Addr} {x : Val} {v : V} (h : RVal G L H cs x v) (k : Kp L H L' H') (p : cs <+: cs') : RVal G L' H' cs' x v := by
  cases x with
  | d x => exact Dv.kp k h
  | cell i =>
    obtain ⟨a, e, h⟩ := h
    exact ⟨a, e, pre_get p h⟩
  | fn i => exact h
  | fz xs =>
    obtain ⟨a, vs, e, h, d⟩ := h
    exact ⟨a, vs, e, h.kp k, DvAll.kp k d⟩
def RVals (G : GG) (L : Addr → Prop) (H : Hp) (cs : List Addr) : List Val → List V → Prop
  | [], [] => True
  | x :: xs, v :: vs => RVal G L H cs x v ∧ RVals G L H cs xs vs
  | _, _ => False
theorem RVals.kp {G : GG} {L L' : Addr → Prop} {H H' : Hp} {cs cs' : List Addr} (k : Kp L H L' H') (p : cs <+: cs') : ∀ {xs : List Val} {vs : List V}, RVals G L H cs xs vs → RVals G L' H' cs' xs vs
  | [], [], _ => trivial
  | x :: xs, v :: vs, h => ⟨h.1.kp k p, RVals.kp k p h.2⟩
  | [], _ :: _, h => h.elim
  | _ :: _, [], h => h.elim
theorem RVals.length {G : GG} {L : Addr → Prop} {H : Hp} {cs : List Addr} : ∀ {xs : List Val} {vs : List V}, RVals G L H cs xs vs → xs.length = vs.length
  | [], [], _ => rfl
  | x :: xs, v :: vs, h => by simp [RVals.length h.2]
  | [], _ :: _, h => h.elim
  | _ :: _, [], h => h.elim
structure REnv (G : GG) (L : Addr → Prop) (H : Hp) (cs : List Addr) (env : En) (σ : L2.St) : Prop where
  len : env.length = σ.length
  get : ∀ (i : Nat) x, env[i]? = some (some x) → ∃ v, σ[i]? = some (some v) ∧ RVal G L H cs x v
theorem REnv.kp {G : GG} {L L' : Addr → Prop} {H H' : Hp} {cs cs' : List Addr} {env : En} {σ : L2.St} (h : REnv G L H cs env σ) (k : Kp L H L' H') (p : cs <+: cs') : REnv G L' H' cs' env σ :=
  ⟨h.len, fun i x e => let ⟨v, e1, r⟩ := h.get i x e; ⟨v, e1, r.kp k p⟩⟩
theorem REnv.set {G : GG} {L : Addr → Prop} {H : Hp} {cs : List Addr} {env : En} {σ : L2.St} (h : REnv G L H cs env σ) {x : Val} {v : V} (r : RVal G L H cs x v) (i : Nat) : REnv G L H cs (env.set i (some x)) (σ.set i (some v)) := by
  refine ⟨by simp [h.len], fun j y e => ?_⟩
  by_cases hj : i = j
  · subst hj
    have hl : i < env.length := by
      have := (List.getElem?_eq_some_iff.mp e).1
      simpa using this
    rw [List.getElem?_set_self hl] at e
    cases e
    exact ⟨v, List.getElem?_set_self (by rw [← h.len]; exact hl), r⟩
  · rw [List.getElem?_set_ne hj] at e
    rw [List.getElem?_set_ne hj]
    exact h.get j y e

section
variable {K : PySem.W.Frag} {Lo : Addr → Prop} {H : Hp} {cs : List Addr} {st : Sto}
theorem Wf.live (w : Wf K Lo H cs st) {a : Addr} (h : Lv Lo cs st a) : ∃ o, H a = some o ∧ ¬ Imm o := by
  rcases h with h | ⟨i, e, c, ec, nd⟩
  · obtain ⟨xs, e⟩ := w.outT a h
    exact ⟨_, e, fun z => z⟩
  · have := w.cell i a c e ec
    cases c with
    | lst xs =>
      obtain ⟨vs, e, _⟩ := this
      exact ⟨_, e, fun z => z⟩
    | dct _ => exact this.elim
    | dead => exact absurd rfl nd
theorem Wf.there (w : Wf K Lo H cs st) {i : Nat} {a : Addr} (h : cs[i]? = some a) : ∃ o, H a = some o := by
  have hi : i < st.length := by
    rw [← w.len]
    exact (List.getElem?_eq_some_iff.mp h).1
  have := w.cell i a _ h (List.getElem?_eq_getElem hi)
  revert this
  cases st[i] with
  | lst xs => exact fun ⟨vs, e, _⟩ => ⟨_, e⟩
  | dct _ => exact fun z => z.elim
  | dead => exact fun z => z
theorem Wf.fresh (w : Wf K Lo H cs st) {p : Addr} (h : H p = none) : ¬ Lv Lo cs st p := fun z => by
  obtain ⟨o, e, _⟩ := w.live z
  rw [h] at e
  cases e
theorem nd_get {cs : List Addr} (h : cs.Nodup) {i j : Nat} {a : Addr} (e1 : cs[i]? = some a) (e2 : cs[j]? = some a) : i = j := by
  obtain ⟨h1, q1⟩ := List.getElem?_eq_some_iff.mp e1
  obtain ⟨h2, q2⟩ := List.getElem?_eq_some_iff.mp e2
  exact (List.getElem_inj h).mp (q1.trans q2.symm)
theorem kp_upd {L : Addr → Prop} {p : Addr} {o : HO} (h : H p = none) : Kp L H L (upd H p o) :=
  ⟨fun a u e n => ⟨by rw [upd_ne (ne_of_none e h)]; exact e, n⟩, fun a u e _ => by rw [upd_ne (ne_of_none e h)]; exact e⟩
theorem CellOk.kp {L L' : Addr → Prop} {H' : Hp} {a : Addr} {c : Cell} (h : CellOk K H L a c) (k : Kp L H L' H') (e : H' a = H a) : CellOk K H' L' a c := by
  cases c with
  | lst xs =>
    obtain ⟨vs, e1, d⟩ := h
    exact ⟨vs, e.trans e1, DvAll.kp k d⟩
  | dct _ => exact h
  | dead =>
    obtain ⟨o, e1⟩ := h
    exact ⟨o, e.trans e1⟩
/-- a new object -/
theorem Wf.alloc (w : Wf K Lo H cs st) {p : Addr} {o : HO} (h : H p = none) : Wf K Lo (upd H p o) cs st :=
  ⟨w.len, w.nd, w.out, fun a l => by
    obtain ⟨xs, e⟩ := w.outT a l
    exact ⟨xs, by rw [upd_ne (ne_of_none e h)]; exact e⟩, fun i a c e1 e2 => by
    obtain ⟨u, e⟩ := w.there e1
    exact (w.cell i a c e1 e2).kp (kp_upd h) (by rw [upd_ne (ne_of_none e h)])⟩
theorem Wf.stp_alloc (w : Wf K Lo H cs st) {p : Addr} {o : HO} (h : H p = none) : Stp Lo H cs st (upd H p o) cs st :=
  ⟨kp_upd h, fun a l => by
    obtain ⟨xs, e⟩ := w.outT a l
    rw [upd_ne (ne_of_none e h)], List.prefix_rfl⟩
theorem lv_set {i : Nat} {c c' : Cell} (e : st[i]? = some c) (h : c ≠ .dead) (h' : c' ≠ .dead) : Lv Lo cs (st.set i c') = Lv Lo cs st := by
  funext a
  apply propext
  unfold Lv
  refine or_congr Iff.rfl ⟨?_, ?_⟩
  · rintro ⟨j, e1, d, e2, n⟩
    by_cases hj : i = j
    · subst hj
      exact ⟨i, e1, c, e, h⟩
    · rw [List.getElem?_set_ne hj] at e2
      exact ⟨j, e1, d, e2, n⟩
  · rintro ⟨j, e1, d, e2, n⟩
    by_cases hj : i = j
    · subst hj
      exact ⟨i, e1, c', List.getElem?_set_self (List.getElem?_eq_some_iff.mp e).1, h'⟩
    · exact ⟨j, e1, d, by rw [List.getElem?_set_ne hj]; exact e2, n⟩
/-- a cell is written -/
theorem Wf.write (w : Wf K Lo H cs st) {i : Nat} {a : Addr} {xs ys : List D} {vs : List V} (e : cs[i]? = some a) (es : st[i]? = some (.lst xs)) (d : DvAll K H (Lv Lo cs st) vs ys) :
    Wf K Lo (upd H a (.lst vs)) cs (st.set i (.lst ys)) ∧ Stp Lo H cs st (upd H a (.lst vs)) cs (st.set i (.lst ys)) := by
  have hl : Lv Lo cs (st.set i (.lst ys)) = Lv Lo cs st := lv_set es (fun z => by cases z) (fun z => by cases z)
  have la : Lv Lo cs st a := Or.inr ⟨i, e, _, es, fun z => by cases z⟩
  have nlo : ¬ Lo a := w.out a (List.mem_of_getElem? e)
  obtain ⟨o, eo, ni⟩ := w.live la
  have k : Kp (Lv Lo cs st) H (Lv Lo cs st) (upd H a (.lst vs)) := by
    refine ⟨fun b u q n => ⟨?_, n⟩, fun b u q im => ?_⟩
    · rw [upd_ne (show b ≠ a from fun z => by subst z; exact n la)]
      exact q
    · rw [upd_ne (show b ≠ a from fun z => by
        subst z
        rw [eo] at q
        cases q
        exact ni im)]
      exact q
  refine ⟨⟨by simp [w.len], w.nd, w.out, fun b l => ?_, fun j b c e1 e2 => ?_⟩, ⟨by rw [hl]; exact k, fun b l => ?_, List.prefix_rfl⟩⟩
  · obtain ⟨zs, q⟩ := w.outT b l
    exact ⟨zs, by rw [upd_ne (show b ≠ a from fun z => by subst z; exact nlo l)]; exact q⟩
  · rw [hl]
    by_cases hj : i = j
    · subst hj
      rw [e] at e1
      cases e1
      rw [List.getElem?_set_self (List.getElem?_eq_some_iff.mp es).1] at e2
      cases e2
      exact ⟨vs, upd_same, DvAll.kp k d⟩
    · rw [List.getElem?_set_ne hj] at e2
      refine (w.cell j b c e1 e2).kp k ?_
      rw [upd_ne (show b ≠ a from fun z => by subst z; exact hj (nd_get w.nd e e1))]
  · rw [upd_ne (show b ≠ a from fun z => by subst z; exact nlo l)]
theorem lv_snoc {p : Addr} {c : Cell} (h : cs.length = st.length) (hc : c ≠ .dead) {a : Addr} : Lv Lo (cs ++ [p]) (st ++ [c]) a ↔ Lv Lo cs st a ∨ a = p := by
  unfold Lv
  constructor
  · rintro (l | ⟨i, e1, d, e2, n⟩)
    · exact Or.inl (Or.inl l)
    · by_cases hi : i < cs.length
      · rw [List.getElem?_append_left hi] at e1
        rw [List.getElem?_append_left (by omega)] at e2
        exact Or.inl (Or.inr ⟨i, e1, d, e2, n⟩)
      · rw [List.getElem?_append_right (by omega)] at e1
        refine Or.inr ?_
        cases q : i - cs.length with
        | zero =>
          rw [q] at e1
          simpa using e1.symm
        | succ m =>
          rw [q] at e1
          simp at e1
  · rintro ((l | ⟨i, e1, d, e2, n⟩) | rfl)
    · exact Or.inl l
    · refine Or.inr ⟨i, ?_, d, ?_, n⟩
      · rw [List.getElem?_append_left (List.getElem?_eq_some_iff.mp e1).1]; exact e1
      · rw [List.getElem?_append_left (List.getElem?_eq_some_iff.mp e2).1]; exact e2
    · exact Or.inr ⟨cs.length, by simp, c, by rw [h]; simp, hc⟩
/-- a new cell -/
theorem Wf.cellNew (w : Wf K Lo H cs st) {p : Addr} {xs : List D} {vs : List V} (h : H p = none) (d : DvAll K H (Lv Lo cs st) vs xs) :
    Wf K Lo (upd H p (.lst vs)) (cs ++ [p]) (st ++ [.lst xs]) ∧ Stp Lo H cs st (upd H p (.lst vs)) (cs ++ [p]) (st ++ [.lst xs]) := by
  have nl := w.fresh h
  have hl : ∀ a, Lv Lo (cs ++ [p]) (st ++ [.lst xs]) a ↔ Lv Lo cs st a ∨ a = p := fun a => lv_snoc w.len (fun z => by cases z)
  have k : Kp (Lv Lo cs st) H (Lv Lo (cs ++ [p]) (st ++ [.lst xs])) (upd H p (.lst vs)) := by
    refine ⟨fun b u q n => ⟨?_, fun z => ?_⟩, fun b u q im => ?_⟩
    · rw [upd_ne (ne_of_none q h)]
      exact q
    · rcases (hl b).mp z with z | z
      · exact n z
      · subst z
        rw [h] at q
        cases q
    · rw [upd_ne (ne_of_none q h)]
      exact q
  refine ⟨⟨by simp [w.len], ?_, fun b hb => ?_, fun b l => ?_, fun j b c e1 e2 => ?_⟩, ⟨k, fun b l => ?_, List.prefix_append _ _⟩⟩
  · rw [List.nodup_append]
    refine ⟨w.nd, by simp, fun a ha b hb => ?_⟩
    have : b = p := by simpa using hb
    subst this
    obtain ⟨i, hi⟩ := List.getElem?_of_mem ha
    obtain ⟨o, e⟩ := w.there hi
    exact ne_of_none e h
  · rcases List.mem_append.mp hb with hb | hb
    · exact w.out b hb
    · have : b = p := by simpa using hb
      subst this
      exact fun l => nl (Or.inl l)
  · obtain ⟨zs, q⟩ := w.outT b l
    exact ⟨zs, by rw [upd_ne (ne_of_none q h)]; exact q⟩
  · by_cases hj : j < cs.length
    · rw [List.getElem?_append_left hj] at e1
      rw [List.getElem?_append_left (by rw [← w.len]; exact hj)] at e2
      obtain ⟨u, q⟩ := w.there e1
      exact (w.cell j b c e1 e2).kp k (by rw [upd_ne (ne_of_none q h)])
    · rw [List.getElem?_append_right (by omega)] at e1
      rw [List.getElem?_append_right (by rw [← w.len]; omega)] at e2
      have z : j - cs.length = 0 := by
        cases q : j - cs.length with
        | zero => rfl
        | succ m => rw [q] at e1; simp at e1
      rw [z] at e1
      rw [← w.len, z] at e2
      have e1 : p = b := by simpa using e1
      have e2 : Cell.lst xs = c := by simpa using e2
      subst e1 e2
      exact ⟨vs, upd_same, DvAll.kp k d⟩
  · obtain ⟨zs, q⟩ := w.outT b l
    rw [upd_ne (ne_of_none q h)]
theorem lv_dead {i : Nat} {a b : Addr} (nd : cs.Nodup) (e : cs[i]? = some a) (nlo : ¬ Lo a) (h : Lv Lo cs (st.set i .dead) b) : Lv Lo cs st b ∧ b ≠ a := by
  rcases h with h | ⟨j, e1, c, e2, n⟩
  · exact ⟨Or.inl h, fun z => by subst z; exact nlo h⟩
  · by_cases hj : i = j
    · subst hj
      by_cases hi : i < st.length
      · rw [List.getElem?_set_self hi] at e2
        cases e2
        exact absurd rfl n
      · rw [List.getElem?_eq_none (by simpa using hi)] at e2
        cases e2
    · rw [List.getElem?_set_ne hj] at e2
      exact ⟨Or.inr ⟨j, e1, c, e2, n⟩, fun z => by subst z; exact hj (nd_get nd e e1)⟩
/-- a cell becomes data -/
theorem Wf.freeze (w : Wf K Lo H cs st) {i : Nat} {a : Addr} {xs : List D} (e : cs[i]? = some a) (es : st[i]? = some (.lst xs)) :
    Wf K Lo H cs (st.set i .dead) ∧ Stp Lo H cs st H cs (st.set i .dead) ∧ Dv K H (Lv Lo cs (st.set i .dead)) (.ref a) (.list xs) := by
  have nlo : ¬ Lo a := w.out a (List.mem_of_getElem? e)
  have hl : ∀ b, Lv Lo cs (st.set i .dead) b → Lv Lo cs st b ∧ b ≠ a := fun b => lv_dead w.nd e nlo
  have k : Kp (Lv Lo cs st) H (Lv Lo cs (st.set i .dead)) H := ⟨fun b u q n => ⟨q, fun z => n (hl b z).1⟩, fun b u q _ => q⟩
  obtain ⟨vs, ea, d⟩ := w.cell i a _ e es
  refine ⟨⟨by simp [w.len], w.nd, w.out, w.outT, fun j b c e1 e2 => ?_⟩, ⟨k, fun _ _ => rfl, List.prefix_rfl⟩, .lst ⟨ea, fun z => (hl a z).2 rfl⟩ (DvAll.kp k d)⟩
  by_cases hj : i = j
  · subst hj
    rw [e] at e1
    cases e1
    rw [List.getElem?_set_self (List.getElem?_eq_some_iff.mp es).1] at e2
    cases e2
    exact ⟨_, ea⟩
  · rw [List.getElem?_set_ne hj] at e2
    exact (w.cell j b c e1 e2).kp k rfl
theorem lv_take {n : Nat} {b : Addr} (h : Lv Lo (cs.take n) (st.take n) b) : Lv Lo cs st b := by
  rcases h with h | ⟨j, e1, c, e2, m⟩
  · exact Or.inl h
  · refine Or.inr ⟨j, ?_, c, ?_, m⟩
    · rw [List.getElem?_take] at e1
      split at e1
      · exact e1
      · cases e1
    · rw [List.getElem?_take] at e2
      split at e2
      · exact e2
      · cases e2
/-- the last cells are forgotten -/
theorem Wf.take (w : Wf K Lo H cs st) (n : Nat) : Wf K Lo H (cs.take n) (st.take n) ∧ Kp (Lv Lo cs st) H (Lv Lo (cs.take n) (st.take n)) H := by
  have k : Kp (Lv Lo cs st) H (Lv Lo (cs.take n) (st.take n)) H := ⟨fun b u q m => ⟨q, fun z => m (lv_take z)⟩, fun b u q _ => q⟩
  refine ⟨⟨by simp [w.len], w.nd.sublist (List.take_sublist _ _), fun a h => w.out a (List.mem_of_mem_take h), w.outT, fun j b c e1 e2 => ?_⟩, k⟩
  rw [List.getElem?_take] at e1 e2
  split at e1
  · rename_i hj
    rw [if_pos hj] at e2
    exact (w.cell j b c e1 e2).kp k rfl
  · cases e1
end

/-- data as an operand: a list may be a cell's -/
def DW (K : PySem.W.Frag) (H : Hp) (L : Addr → Prop) (v : V) : D → Prop
  | .none => v = .non
  | .bool b => v = .bl b
  | .int i => v = .int i
  | .str s => v = .str s
  | .list xs => ∃ a vs, v = .ref a ∧ H a = some (.lst vs) ∧ DvAll K H L vs xs
  | .tuple xs => ∃ a vs, v = .ref a ∧ SqT K H a vs ∧ DvAll K H L vs xs
  | .dict _ => False
section
variable {G : GG} {Lo : Addr → Prop} {H : Hp} {cs : List Addr} {st : Sto}
theorem Dv.dw {K : PySem.W.Frag} {L : Addr → Prop} {v : V} {d : D} (h : Dv K H L v d) : DW K H L v d := by
  cases h with
  | non => rfl
  | bl b => rfl
  | int i => rfl
  | str x => rfl
  | lst h a => exact ⟨_, _, rfl, h.1, a⟩
  | tup h a => exact ⟨_, _, rfl, h, a⟩
theorem DW.dp {K : PySem.W.Frag} {L : Addr → Prop} {v : V} {d : D} (h : DW K H L v d) : Dp K H v d := by
  cases d with
  | none => cases h; exact .non
  | bool b => cases h; exact .bl b
  | int i => cases h; exact .int i
  | str x => cases h; exact .str x
  | list xs => obtain ⟨a, vs, rfl, e, d⟩ := h; exact .lst (.inl (.inl e)) (DvAll.dp d)
  | tuple xs => obtain ⟨a, vs, rfl, e, d⟩ := h; exact .tup e (DvAll.dp d)
  | dict _ => exact h.elim
theorem cell_of (w : Wf G.K Lo H cs st) {i : Nat} {v : V} {xs : List D} (r : RVal G (Lv Lo cs st) H cs (.cell i) v) (e : cellLst st i = some xs) :
    ∃ a vs, v = .ref a ∧ cs[i]? = some a ∧ st[i]? = some (.lst xs) ∧ H a = some (.lst vs) ∧ DvAll G.K H (Lv Lo cs st) vs xs := by
  obtain ⟨a, rfl, ea⟩ := r
  unfold cellLst at e
  split at e
  · rename_i q
    cases e
    obtain ⟨vs, e1, d⟩ := w.cell i a _ ea q
    exact ⟨a, vs, rfl, ea, q, e1, d⟩
  · cases e
theorem data_of (w : Wf G.K Lo H cs st) {x : Val} {v : V} {d : D} (r : RVal G (Lv Lo cs st) H cs x v) (e : dataOf st x = some d) : DW G.K H (Lv Lo cs st) v d := by
  cases x with
  | d x =>
    cases e
    exact Dv.dw r
  | cell i =>
    have e : (cellLst st i).map PyData.list = some d := e
    cases q : cellLst st i with
    | none => rw [q] at e; cases e
    | some xs =>
      rw [q] at e
      cases e
      obtain ⟨a, vs, e1, _, _, e2, dd⟩ := cell_of w r q
      exact ⟨a, vs, e1, e2, dd⟩
  | fn i => cases e
  | fz xs => cases e
theorem seq_of (w : Wf G.K Lo H cs st) {x : Val} {v : V} {xs : List D} (r : RVal G (Lv Lo cs st) H cs x v) (e : seqOf st x = some xs) :
    ∃ a vs, v = .ref a ∧ (SqL G.K H a vs ∨ SqT G.K H a vs) ∧ DvAll G.K H (Lv Lo cs st) vs xs := by
  cases x with
  | d x =>
    cases x <;> cases e
    · cases r with
      | lst h a => exact ⟨_, _, rfl, .inl h.sq, a⟩
    · cases r with
      | tup h a => exact ⟨_, _, rfl, .inr h, a⟩
  | cell i =>
    obtain ⟨a, vs, e1, _, _, e2, dd⟩ := cell_of w r e
    exact ⟨a, vs, e1, .inl (.inl (.inl e2)), dd⟩
  | fn i => cases e
  | fz xs =>
    cases e
    obtain ⟨a, vs, e1, e2, dd⟩ := r
    exact ⟨a, vs, e1, .inl e2.sq, dd⟩
theorem lst_of (w : Wf G.K Lo H cs st) {x : Val} {v : V} {xs : List D} (r : RVal G (Lv Lo cs st) H cs x v) (e : lstOf st x = some xs) :
    ∃ a vs, v = .ref a ∧ SqL G.K H a vs ∧ DvAll G.K H (Lv Lo cs st) vs xs := by
  cases x with
  | d x =>
    cases x <;> cases e
    cases r with
    | lst h a => exact ⟨_, _, rfl, h.sq, a⟩
  | cell i =>
    obtain ⟨a, vs, e1, _, _, e2, dd⟩ := cell_of w r e
    exact ⟨a, vs, e1, .inl (.inl e2), dd⟩
  | fn i => cases e
  | fz xs => cases e
end
end Py

set_option Elab.async false
set_option linter.all false
set_option maxRecDepth 100000
/-! IB: judgements, what is wanted behind, the plain operations -/
namespace Py
open PySem PySem.Spec PyProof.Rows L2

/-! ### the widest readings -/
def WE (X : Cx) (e : Expr) : TE := fun σ H Q => ∃ t, PE X e t ∧ t σ H Q
theorem pe_c {X : Cx} {e : Expr} : PE X e (WE X e) := ⟨fun pins s σ H Q I ⟨_, h, q⟩ => h.run pins s σ H Q I q⟩
def WT (X : Cx) (e : Expr) : TT := fun σ H Q => ∃ t, PT X e t ∧ t σ H Q
theorem pt_c {X : Cx} {e : Expr} : PT X e (WT X e) := ⟨fun pins s σ H Q I ⟨_, h, q⟩ => h.run pins s σ H Q I q⟩
def WP (X : Cx) (e : Expr) : TT := fun σ H Q => ∃ t, PW X e t ∧ t σ H Q
theorem pw_c {X : Cx} {e : Expr} : PW X e (WP X e) := ⟨fun wh pins s σ H Q I ⟨_, h, q⟩ => h.run wh pins s σ H Q I q⟩
def WA (X : Cx) (es : List Expr) : TA := fun σ H Q => ∃ t, PA X es t ∧ t σ H Q
theorem pa_c {X : Cx} {es : List Expr} : PA X es (WA X es) := ⟨fun pos pins s σ H Q I ⟨_, h, q⟩ => h.run pos pins s σ H Q I q⟩
def WS (X : Cx) (s : Stmt) : TS := fun D σ H => ∃ t, PS X s t ∧ t D σ H
theorem ps_c {X : Cx} {s : Stmt} : PS X s (WS X s) := ⟨fun pins s σ H D I ⟨_, h, q⟩ => h.run pins s σ H D I q⟩
def WSs (X : Cx) (s : List Stmt) : TS := fun D σ H => ∃ t, PSs X s t ∧ t D σ H
theorem pss_c {X : Cx} {s : List Stmt} : PSs X s (WSs X s) := ⟨fun pins s σ H D I ⟨_, h, q⟩ => h.run pins s σ H D I q⟩
def WI (X : Cx) (tg e : Expr) : TI := fun σ H R => ∃ t, PI X tg e t ∧ t σ H R
theorem pi_c {X : Cx} {tg e : Expr} : PI X tg e (WI X tg e) := ⟨fun pins s σ H R I ⟨_, h, q⟩ => h.run pins s σ H R I q⟩
def WG (X : Cx) (tg : Expr) : TG := fun v σ H Q => ∃ t, PG X tg t ∧ t v σ H Q
theorem pg_c {X : Cx} {tg : Expr} : PG X tg (WG X tg) := ⟨fun pins s σ H v u Q I r ⟨_, h, q⟩ => h.run pins s σ H v u Q I r q⟩
def WGs (X : Cx) (ts : List Expr) : TGs := fun vs σ H Q => ∃ t, PGs X ts t ∧ t vs σ H Q
theorem pgs_c {X : Cx} {ts : List Expr} : PGs X ts (WGs X ts) := ⟨fun pins s σ H v u Q I r ⟨_, h, q⟩ => h.run pins s σ H v u Q I r q⟩
def WO (X : Cx) (e : Option Expr) : TO := fun σ H Q => ∃ t, PO X e t ∧ t σ H Q
theorem po_c {X : Cx} {e : Option Expr} : PO X e (WO X e) := ⟨fun pins s σ H Q I ⟨_, h, q⟩ => h.run pins s σ H Q I q⟩
def WR (X : Cx) (f : Value → Value → Sem Value) : R2 := fun x y H Q => ∃ r, OpR X f r ∧ r x y H Q
theorem op_c {X : Cx} {f : Value → Value → Sem Value} : OpR X f (WR X f) := fun pins s σ H x y v u Q I rx ry ⟨_, h, q⟩ => h pins s σ H x y v u Q I rx ry q
def WX (X : Cx) : R2 := fun x y H Q => ∃ r, IxR X r ∧ r x y H Q
theorem ix_c {X : Cx} : IxR X (WX X) := fun va sl pins s σ H x y v u Q I rx ry ⟨_, h, q⟩ hs => h va sl pins s σ H x y v u Q I rx ry q hs
def WL (X : Cx) : V → Option Int → Option Int → Hp → VK → Prop := fun x lo hi H Q => ∃ r, SlR X r ∧ r x lo hi H Q
theorem sl_c {X : Cx} : SlR X (WL X) := fun pins s σ H x v vl vu lo hi sl Q I rx hs pl pu ⟨_, h, q⟩ => h pins s σ H x v vl vu lo hi sl Q I rx hs pl pu q
def WC (X : Cx) (f : Value) : List V → Hp → VK → Prop := fun xs H Q => ∃ r, CallR X f r ∧ r xs H Q
theorem call_c {X : Cx} {f : Value} : CallR X f (WC X f) := fun pins s σ H xs us Q I r ⟨_, h, q⟩ => h pins s σ H xs us Q I r q
def WPT (X : Cx) (e : List Expr) : TT := fun σ H Q => ∃ t, PTs X e t ∧ t σ H Q
theorem pts_c {X : Cx} {e : List Expr} : PTs X e (WPT X e) := ⟨fun pins s σ H Q I ⟨_, h, q⟩ => h.run pins s σ H Q I q⟩

/-! ### what is wanted behind -/
abbrev Rel (α β : Type) := (Addr → Prop) → Hp → List Addr → Sto → α → β → Prop
def Post (G : GG) (Lo : Addr → Prop) {α β : Type} (rel : Rel α β) (H : Hp) (cs : List Addr) (st : Sto) (o : R (α × Sto)) (Q : β → Hp → Prop) (E : XK) : Prop :=
  match o with
  | .ok (x, st') => ∀ v H' cs', Stp Lo H cs st H' cs' st' → Wf G.K Lo H' cs' st' → rel (Lv Lo cs' st') H' cs' st' x v → Q v H'
  | .exc c st' => ∀ H' cs', Stp Lo H cs st H' cs' st' → Wf G.K Lo H' cs' st' → E (.ref (G.ca c)) none H'
  | .bad => False
def rV (G : GG) : Rel Val V := fun L H cs _ x v => RVal G L H cs x v
def rVs (G : GG) : Rel (List Val) (List V) := fun L H cs _ x v => RVals G L H cs x v
def rD (G : GG) : Rel D V := fun L H _ _ x v => Dv G.K H L v x
def rDs (G : GG) : Rel (List D) (List V) := fun L H _ _ x v => DvAll G.K H L v x
def rEq (α : Type) : Rel α α := fun _ _ _ _ x v => v = x
section
variable {G : GG} {Lo : Addr → Prop} {H : Hp} {cs : List Addr} {st : Sto} {α β γ δ : Type} {rel : Rel α β} {rel2 : Rel γ δ} {Q : β → Hp → Prop} {Q2 : δ → Hp → Prop} {E : XK}
theorem Post.stp {o : R (α × Sto)} {H1 : Hp} {cs1 : List Addr} {st1 : Sto} (h : Post G Lo rel H cs st o Q E) (s : Stp Lo H cs st H1 cs1 st1) : Post G Lo rel H1 cs1 st1 o Q E := by
  cases o with
  | ok p => exact fun v H' cs' s' w r => h v H' cs' (s.trans s') w r
  | exc c st' => exact fun H' cs' s' w => h H' cs' (s.trans s') w
  | bad => exact h
theorem Post.bind {o : R (α × Sto)} {f : α × Sto → R (γ × Sto)} {Q' : β → Hp → Prop} (h : Post G Lo rel2 H cs st (o >>= f) Q2 E)
    (k : ∀ x s1 v H1 cs1, o = .ok (x, s1) → Stp Lo H cs st H1 cs1 s1 → Wf G.K Lo H1 cs1 s1 → rel (Lv Lo cs1 s1) H1 cs1 s1 x v → Post G Lo rel2 H1 cs1 s1 (f (x, s1)) Q2 E → Q' v H1) : Post G Lo rel H cs st o Q' E := by
  cases o with
  | ok p =>
    obtain ⟨x, s1⟩ := p
    exact fun v H' cs' s' w r => k x s1 v H' cs' rfl s' w r (Post.stp (show Post G Lo rel2 H cs st (f (x, s1)) Q2 E from h) s')
  | exc c st' => exact h
  | bad => exact h
theorem Post.bind0 {o : R (α × Sto)} {f : α × Sto → R (γ × Sto)} {Q' : β → Hp → Prop} (h : Post G Lo rel2 H cs st (o >>= f) Q2 E)
    (k : ∀ x s1 v H1 cs1, o = .ok (x, s1) → Stp Lo H cs st H1 cs1 s1 → Wf G.K Lo H1 cs1 s1 → rel (Lv Lo cs1 s1) H1 cs1 s1 x v → Post G Lo rel2 H cs st (f (x, s1)) Q2 E → Q' v H1) : Post G Lo rel H cs st o Q' E := by
  cases o with
  | ok p =>
    obtain ⟨x, s1⟩ := p
    exact fun v H' cs' s' w r => k x s1 v H' cs' rfl s' w r (show Post G Lo rel2 H cs st (f (x, s1)) Q2 E from h)
  | exc c st' => exact h
  | bad => exact h
theorem Post.opt {ε : Type} {o : Option ε} {f : ε → R (α × Sto)} (h : Post G Lo rel H cs st (ofOpt o >>= f) Q E) : ∃ z, o = some z ∧ Post G Lo rel H cs st (f z) Q E := by
  cases o with
  | none => exact h.elim
  | some z => exact ⟨z, rfl, h⟩
theorem Post.done {x : α} (h : Post G Lo rel H cs st (.ok (x, st)) Q E) (w : Wf G.K Lo H cs st) {v : β} (r : rel (Lv Lo cs st) H cs st x v) : Q v H := h v H cs .refl w r
theorem Post.mono {o : R (α × Sto)} {Q' : β → Hp → Prop} (h : Post G Lo rel H cs st o Q E) (k : ∀ v H, Q v H → Q' v H) : Post G Lo rel H cs st o Q' E := by
  cases o with
  | ok p => exact fun v H' cs' s' w r => k _ _ (h v H' cs' s' w r)
  | exc c st' => exact h
  | bad => exact h
end

theorem lim_eq : LIM = sizeLine := sizeLine_eq.symm

theorem obind {α β : Type} {o : Option α} {f : α → Option β} {z : β} (h : (o >>= f) = some z) : ∃ a, o = some a ∧ f a = some z := by
  cases o with
  | none => cases h
  | some a => exact ⟨a, rfl, h⟩

/-! ### plain operations -/
section
variable {X : Cx} {G : GG} {Lo : Addr → Prop} {H : Hp} {cs : List Addr} {st : Sto}

def opOf : Op → Operator
  | .add => .Add | .sub => .Sub | .mul => .Mult | .fdiv => .FloorDiv | .mod => .Mod | .pow => .Pow | .shl => .LShift
theorem op_catL : OpR X (binaryOp .Add) rCat := op_cat
/-- a new object that holds data -/
theorem new_tup (w : Wf G.K Lo H cs st) {p : Addr} {vs : List V} {xs : List D} (h : H p = none) (d : DvAll G.K H (Lv Lo cs st) vs xs) :
    Stp Lo H cs st (upd H p (.tup vs)) cs st ∧ Wf G.K Lo (upd H p (.tup vs)) cs st ∧ Dv G.K (upd H p (.tup vs)) (Lv Lo cs st) (.ref p) (.tuple xs) :=
  ⟨w.stp_alloc h, w.alloc h, .tup (.inl (.inl upd_same)) (DvAll.kp (kp_upd h) d)⟩
theorem new_lst (w : Wf G.K Lo H cs st) {p : Addr} {vs : List V} {xs : List D} (h : H p = none) (d : DvAll G.K H (Lv Lo cs st) vs xs) :
    Stp Lo H cs st (upd H p (.lst vs)) cs st ∧ Wf G.K Lo (upd H p (.lst vs)) cs st ∧ Dv G.K (upd H p (.lst vs)) (Lv Lo cs st) (.ref p) (.list xs) :=
  ⟨w.stp_alloc h, w.alloc h, .lst ⟨upd_same, w.fresh h⟩ (DvAll.kp (kp_upd h) d)⟩

/-- what an operation's end asks -/
def Fin (G : GG) (Lo : Addr → Prop) (H : Hp) (cs : List Addr) (st : Sto) (z : D) (Q : VK) : Prop :=
  ∀ v H', Stp Lo H cs st H' cs st → Wf G.K Lo H' cs st → Dv G.K H' (Lv Lo cs st) v z → Q v H'
theorem Fin.flat {z : D} {Q : VK} (f : Fin G Lo H cs st z Q) (w : Wf G.K Lo H cs st) {v : V} (h : Dv G.K H (Lv Lo cs st) v z) : Q v H := f v H .refl w h
theorem Post.fin {z : D} {Q : VK} {E : XK} (h : Post G Lo (rV G) H cs st (.ok (.d z, st)) Q E) : Fin G Lo H cs st z Q := fun v H' s w r => h v H' cs s w r

theorem mulOk_or {i j : Int} (h : mulOk i j = true) : CMul i j ∨ CMulW i j := by
  unfold mulOk at h
  simp only [Bool.or_eq_true, Bool.and_eq_true, decide_eq_true_eq] at h
  rcases h with (h | h) | h
  · exact .inl (.inl h)
  · exact .inl (.inr h)
  · exact .inr h
theorem powOk_of {i j : Int} (h : powOk i j = true) : CPow i j := by
  unfold powOk at h
  simp only [Bool.and_eq_true, decide_eq_true_eq] at h
  exact ⟨h.1.1, h.1.2, h.2⟩

theorem sound_op (hK : X.K = G.K) {o : Op} {x y z : D} {v u : V} {Q : VK} (w : Wf G.K Lo H cs st) (e : opD o x y = some z) (rx : DW G.K H (Lv Lo cs st) v x) (ry : DW G.K H (Lv Lo cs st) u y)
    (f : Fin G Lo H cs st z Q) : WR X (binaryOp (opOf o)) v u H Q := by
  unfold opD at e
  split at e
  · cases e; cases rx; cases ry
    exact ⟨_, op_add, _, _, rfl, rfl, f.flat w (.int _)⟩
  · split at e
    · rename_i hz
      cases e
      obtain ⟨a, vs, rfl, ha, da⟩ := rx
      obtain ⟨b, us, rfl, hb, db⟩ := ry
      refine ⟨_, op_catA, a, b, vs, us, rfl, rfl, by rw [hK]; exact ha, by rw [hK]; exact hb, by rw [← lim_eq, da.length, db.length]; exact hz, fun e1 => ?_, fun e1 e2 => ?_, fun e1 e2 p hp => ?_⟩
      · subst e1
        cases da
        exact f.flat w (.tup hb db)
      · subst e2
        cases db
        rw [List.append_nil] at f
        exact f.flat w (.tup ha da)
      · obtain ⟨s, w', d⟩ := new_tup w hp (da.append db)
        exact f _ _ s w' d
    · cases e
  · split at e
    · rename_i hz
      cases e
      obtain ⟨a, vs, rfl, ha, da⟩ := rx
      obtain ⟨b, us, rfl, hb, db⟩ := ry
      refine ⟨_, op_cat, a, b, vs, us, rfl, rfl, ha, hb, by rw [← lim_eq, da.length, db.length]; exact hz, fun p hp => ?_⟩
      obtain ⟨s, w', d⟩ := new_lst w hp (da.append db)
      exact f _ _ s w' d
    · cases e
  · cases e; cases rx; cases ry
    exact ⟨_, op_sub, _, _, rfl, rfl, f.flat w (.int _)⟩
  · split at e
    · rename_i hz
      cases e; cases rx; cases ry
      rcases mulOk_or hz with c | c
      · exact ⟨_, op_mul, _, _, rfl, rfl, c, f.flat w (.int _)⟩
      · exact ⟨_, op_mulW, _, _, rfl, rfl, c, f.flat w (.int _)⟩
    · cases e
  · split at e
    · rename_i hz
      simp only [Bool.and_eq_true, decide_eq_true_eq] at hz
      cases e
      obtain ⟨a, vs, rfl, ha, da⟩ := rx
      cases ry
      refine ⟨_, op_rep, a, _, vs, rfl, rfl, ha, hz.1.1, hz.1.2, by rw [← lim_eq, da.length]; exact hz.2, fun p hp => ?_⟩
      obtain ⟨s, w', d⟩ := new_lst w hp (da.rep _)
      exact f _ _ s w' d
    · cases e
  · split at e
    · rename_i hz
      simp only [Bool.and_eq_true, decide_eq_true_eq, Bool.not_eq_true'] at hz
      cases e
      obtain ⟨a, vs, rfl, ha, da⟩ := rx
      cases ry
      refine ⟨_, op_repT, a, _, vs, rfl, rfl, by rw [hK]; exact ha, fun z => ?_, hz.1.1.2, hz.1.2, by rw [da.length]; exact hz.2, fun p hp => ?_⟩
      · subst z
        cases da
        exact absurd hz.1.1.1 (by simp)
      · obtain ⟨s, w', d⟩ := new_tup w hp (da.rep _)
        exact f _ _ s w' d
    · cases e
  · split at e
    · rename_i hz
      simp only [Bool.and_eq_true, decide_eq_true_eq] at hz
      cases e; cases rx; cases ry
      exact ⟨_, op_fdivW, _, _, rfl, rfl, hz, f.flat w (.int _)⟩
    · cases e
  · split at e
    · rename_i hz
      simp only [decide_eq_true_eq] at hz
      cases e; cases rx; cases ry
      exact ⟨_, op_mod, _, _, rfl, rfl, hz, f.flat w (.int _)⟩
    · cases e
  · split at e
    · rename_i hz
      cases e; cases rx; cases ry
      exact ⟨_, op_pow, _, _, rfl, rfl, powOk_of hz, f.flat w (.int _)⟩
    · cases e
  · split at e
    · rename_i hz
      cases e; cases rx; cases ry
      exact ⟨_, op_shl, _, _, rfl, rfl, powOk_of hz, f.flat w (.int _)⟩
    · cases e
  · cases e

def cmOf : Cm → CmpOp
  | .eq => .Eq | .ne => .NotEq | .lt => .Lt | .le => .LtE | .gt => .Gt | .ge => .GtE | .isin => .In | .notin => .NotIn
theorem room_in {A : Around} {x : D} {ys : List D} (sx : SeqAt.shaped x = true) (hu : A.units + 65 < cLine) : A.units + 1 + min (PyData.depthAll ys) x.depth < cLine := by
  have := SeqAt.depth_of_shaped sx
  omega
theorem op_inT (hu : X.A.units + 65 < cLine) : OpR X (compareOp .In) (fun x y H Q => ∃ d ds, Dp X.K H x d ∧ Dp X.K H y (.tuple ds) ∧ SeqAt.shaped d = true ∧ SeqAt.shaped (.tuple ds) = true ∧ Q (.bl (ds.any fun z => PyData.eqv z d)) H) := by
  intro pins s σ H x y v u Q I rx ry h
  obtain ⟨d, ds, hd, he, sd, se, q⟩ := h
  obtain ⟨as, r1⟩ := Dp.reads I d x v hd rx
  obtain ⟨bs, r2⟩ := Dp.reads I (.tuple ds) y u he ry
  exact SeqAt.in_tuple_reads r2 r1 (SeqAt.canLay_of_shaped se) (SeqAt.canLay_of_shaped sd) (room_in sd hu) ⟨.bl _, H, I, rfl, q⟩
theorem op_notInT (hu : X.A.units + 65 < cLine) : OpR X (compareOp .NotIn) (fun x y H Q => ∃ d ds, Dp X.K H x d ∧ Dp X.K H y (.tuple ds) ∧ SeqAt.shaped d = true ∧ SeqAt.shaped (.tuple ds) = true ∧ Q (.bl (!ds.any fun z => PyData.eqv z d)) H) := by
  intro pins s σ H x y v u Q I rx ry h
  obtain ⟨d, ds, hd, he, sd, se, q⟩ := h
  obtain ⟨as, r1⟩ := Dp.reads I d x v hd rx
  obtain ⟨bs, r2⟩ := Dp.reads I (.tuple ds) y u he ry
  exact SeqAt.notIn_tuple_reads r2 r1 (SeqAt.canLay_of_shaped se) (SeqAt.canLay_of_shaped sd) (room_in sd hu) ⟨.bl _, H, I, rfl, q⟩

theorem sound_eq (hK : X.K = G.K) (hu : X.A.units + 65 < cLine) {x y : D} {z : Bool} {v u : V} {Q : VK} (e : eqD x y = some z) (rx : DW G.K H (Lv Lo cs st) v x) (ry : DW G.K H (Lv Lo cs st) u y)
    (f : Q (.bl z) H) : WR X (compareOp .Eq) v u H Q := by
  unfold eqD at e
  split at e
  · rename_i i j
    cases e; cases rx; cases ry
    refine ⟨_, L2.op_eq, rfl, ?_⟩
    have : decide (V.int i = V.int j) = decide (i = j) := by rw [dec_int, Bool.beq_eq_decide_eq]
    rw [this]
    exact f
  · split at e
    · rename_i hz
      rw [Bool.and_eq_true] at hz
      cases e
      exact ⟨_, op_eqD (by omega), x, y, by rw [hK]; exact rx.dp, by rw [hK]; exact ry.dp, hz.1, hz.2, f⟩
    · cases e
theorem sound_ne (hK : X.K = G.K) (hu : X.A.units + 65 < cLine) {x y : D} {z : Bool} {v u : V} {Q : VK} (e : eqD x y = some z) (rx : DW G.K H (Lv Lo cs st) v x) (ry : DW G.K H (Lv Lo cs st) u y)
    (f : Q (.bl (!z)) H) : WR X (compareOp .NotEq) v u H Q := by
  unfold eqD at e
  split at e
  · rename_i i j
    cases e; cases rx; cases ry
    refine ⟨_, L2.op_ne, rfl, ?_⟩
    have : decide (V.int i = V.int j) = decide (i = j) := by rw [dec_int, Bool.beq_eq_decide_eq]
    rw [this]
    exact f
  · split at e
    · rename_i hz
      rw [Bool.and_eq_true] at hz
      cases e
      exact ⟨_, op_neD (by omega), x, y, by rw [hK]; exact rx.dp, by rw [hK]; exact ry.dp, hz.1, hz.2, f⟩
    · cases e
theorem sound_in (hK : X.K = G.K) (hu : X.A.units + 65 < cLine) {x y : D} {z : Bool} {v u : V} {Q : VK} (e : inD x y = some z) (rx : DW G.K H (Lv Lo cs st) v x) (ry : DW G.K H (Lv Lo cs st) u y)
    (f : Q (.bl z) H) : WR X (compareOp .In) v u H Q := by
  unfold inD at e
  split at e
  · split at e
    · rename_i hz
      rw [Bool.and_eq_true] at hz
      cases e
      exact ⟨_, op_inD (by omega), x, _, by rw [hK]; exact rx.dp, by rw [hK]; exact ry.dp, hz.1, hz.2, f⟩
    · cases e
  · split at e
    · rename_i hz
      rw [Bool.and_eq_true] at hz
      cases e
      exact ⟨_, op_inT (by omega), x, _, by rw [hK]; exact rx.dp, by rw [hK]; exact ry.dp, hz.1, hz.2, f⟩
    · cases e
  · cases e
theorem sound_notin (hK : X.K = G.K) (hu : X.A.units + 65 < cLine) {x y : D} {z : Bool} {v u : V} {Q : VK} (e : inD x y = some z) (rx : DW G.K H (Lv Lo cs st) v x) (ry : DW G.K H (Lv Lo cs st) u y)
    (f : Q (.bl (!z)) H) : WR X (compareOp .NotIn) v u H Q := by
  unfold inD at e
  split at e
  · split at e
    · rename_i hz
      rw [Bool.and_eq_true] at hz
      cases e
      exact ⟨_, op_notInD (by omega), x, _, by rw [hK]; exact rx.dp, by rw [hK]; exact ry.dp, hz.1, hz.2, f⟩
    · cases e
  · split at e
    · rename_i hz
      rw [Bool.and_eq_true] at hz
      cases e
      exact ⟨_, op_notInT (by omega), x, _, by rw [hK]; exact rx.dp, by rw [hK]; exact ry.dp, hz.1, hz.2, f⟩
    · cases e
  · cases e
theorem sound_cm (hK : X.K = G.K) (hu : X.A.units + 65 < cLine) {c : Cm} {x y : D} {z : Bool} {v u : V} {Q : VK} (e : cmD c x y = some z) (rx : DW G.K H (Lv Lo cs st) v x) (ry : DW G.K H (Lv Lo cs st) u y)
    (f : Q (.bl z) H) : WR X (compareOp (cmOf c)) v u H Q := by
  unfold cmD at e
  split at e
  · exact sound_eq hK hu e rx ry f
  · cases q : eqD x y with
    | none => rw [q] at e; cases e
    | some b =>
      rw [q] at e
      cases e
      exact sound_ne hK hu q rx ry f
  · cases e; cases rx; cases ry
    exact ⟨_, op_lt, _, _, rfl, rfl, f⟩
  · cases e; cases rx; cases ry
    exact ⟨_, op_le, _, _, rfl, rfl, f⟩
  · cases e; cases rx; cases ry
    exact ⟨_, op_gt, _, _, rfl, rfl, f⟩
  · cases e; cases rx; cases ry
    exact ⟨_, op_ge, _, _, rfl, rfl, f⟩
  · exact sound_in hK hu e rx ry f
  · cases q : inD x y with
    | none => rw [q] at e; cases e
    | some b =>
      rw [q] at e
      cases e
      exact sound_notin hK hu q rx ry f
  · cases e

theorem DvAll.at {K : PySem.W.Frag} {L : Addr → Prop} {vs : List V} {xs : List D} {i : Int} {z : D} (d : DvAll K H L vs xs) (e : atI xs i = some z) : ∃ v, atI vs i = some v ∧ Dv K H L v z := by
  unfold atI at e ⊢
  rw [d.length]
  cases q : ixN xs.length i with
  | none => rw [q] at e; cases e
  | some j =>
    rw [q] at e
    exact DvAll.get d e
theorem sound_ix (hK : X.K = G.K) {x : Val} {i : D} {z : D} {v u : V} {Q : VK} (w : Wf G.K Lo H cs st) (e : ixV st x (.d i) = some z) (rx : RVal G (Lv Lo cs st) H cs x v) (ry : Dv G.K H (Lv Lo cs st) u i)
    (f : Fin G Lo H cs st z Q) : WX X v u H Q := by
  unfold ixV at e
  cases q : seqOf st x with
  | none => rw [q] at e; cases e
  | some xs =>
    rw [q] at e
    have e : ixD xs (.d i) = some z := e
    unfold ixD at e
    split at e
    · rename_i i' k hk
      cases hk
      cases ry
      obtain ⟨a, vs, rfl, hs, d⟩ := seq_of w rx q
      obtain ⟨t, h1, h2⟩ := DvAll.at d e
      rcases hs with hs | hs
      · exact ⟨_, ix_list, a, vs, _, t, rfl, rfl, by rw [hK]; exact hs, h1, f.flat w h2⟩
      · exact ⟨_, ix_tup, a, vs, _, t, rfl, rfl, by rw [hK]; exact hs, h1, f.flat w h2⟩
    · cases e
theorem sIx_whole {α : Type} (xs : List α) (lo hi : Option Int) (h : HT.sIx xs.length 0 lo = 0 ∧ HT.sIx xs.length xs.length hi = xs.length) :
    (xs.drop (HT.sIx xs.length 0 lo)).take (HT.sIx xs.length xs.length hi - HT.sIx xs.length 0 lo) = xs := by
  rw [h.1, h.2, List.drop_zero, Nat.sub_zero, List.take_length]
theorem sound_sl (hK : X.K = G.K) {x : Val} {lo hi : Option Int} {z : D} {v : V} {Q : VK} (w : Wf G.K Lo H cs st) (e : slV st x lo hi = some z) (rx : RVal G (Lv Lo cs st) H cs x v)
    (f : Fin G Lo H cs st z Q) : WL X v lo hi H Q := by
  unfold slV at e
  split at e
  · cases e
    cases rx with
    | lst h d =>
      refine ⟨_, sl_list, _, _, rfl, by rw [hK]; exact h.sq, fun p hp => ?_⟩
      obtain ⟨s, w', d⟩ := new_lst w hp (d.cut lo hi)
      exact f _ _ s w' d
  · cases e
    cases rx with
    | tup h d =>
      refine ⟨_, sl_tupA, _, _, rfl, by rw [hK]; exact h, fun hw => ?_, fun _ p hp => ?_⟩
      · rw [d.length] at hw
        have e : cutD _ lo hi = _ := sIx_whole _ lo hi hw
        rw [e] at f
        exact f.flat w (.tup h d)
      · obtain ⟨s, w', d⟩ := new_tup w hp (d.cut lo hi)
        exact f _ _ s w' d
  · rename_i i
    cases q : cellLst st i with
    | none => rw [q] at e; cases e
    | some xs =>
      rw [q] at e
      cases e
      obtain ⟨a, vs, rfl, _, _, h, d⟩ := cell_of w rx q
      refine ⟨_, sl_list, _, _, rfl, .inl (.inl h), fun p hp => ?_⟩
      obtain ⟨s, w', d⟩ := new_lst w hp (d.cut lo hi)
      exact f _ _ s w' d
  · cases e

theorem sound_truth (hK : X.K = G.K) {x : Val} {b : Bool} {v : V} (w : Wf G.K Lo H cs st) (e : truth st x = some b) (rx : RVal G (Lv Lo cs st) H cs x v) : TruV X.K v H b := by
  unfold truth at e
  split at e
  · cases e; cases rx; exact rfl
  · cases e; cases rx; exact rfl
  · cases e; cases rx; exact rfl
  · cases e
    cases rx with
    | lst h d =>
      refine .inl ⟨_, by rw [hK]; exact h.sq, ?_⟩
      cases d <;> rfl
  · cases e
    cases rx with
    | tup h d =>
      refine .inr (.inl ⟨_, by rw [hK]; exact h, ?_⟩)
      cases d <;> rfl
  · rename_i i
    cases q : cellLst st i with
    | none => rw [q] at e; cases e
    | some xs =>
      rw [q] at e
      cases e
      obtain ⟨a, vs, rfl, _, _, h, d⟩ := cell_of w rx q
      refine .inl ⟨_, .inl (.inl h), ?_⟩
      cases d <;> rfl
  · cases e

theorem minI_spec : ∀ {ns : List Int} {m : Int}, minI ns = some m → 0 < ns.length ∧ m ∈ ns ∧ ∀ y ∈ ns, m ≤ y
  | [], _, e => by cases e
  | [a], m, e => by
    cases e
    exact ⟨by simp, by simp, by simp⟩
  | a :: b :: r, m, e => by
    unfold minI at e
    cases q : minI (b :: r) with
    | none => rw [q] at e; cases e
    | some k =>
      rw [q] at e
      have e : (if a ≤ k then a else k) = m := Option.some.inj e
      obtain ⟨_, h2, h3⟩ := minI_spec q
      subst e
      refine ⟨by simp, ?_, fun y hy => ?_⟩
      · split
        · simp
        · exact List.mem_cons_of_mem _ h2
      · rcases List.mem_cons.mp hy with rfl | hy
        · split <;> omega
        · have := h3 y hy
          split <;> omega
theorem maxI_spec : ∀ {ns : List Int} {m : Int}, maxI ns = some m → 0 < ns.length ∧ m ∈ ns ∧ ∀ y ∈ ns, y ≤ m
  | [], _, e => by cases e
  | [a], m, e => by
    cases e
    exact ⟨by simp, by simp, by simp⟩
  | a :: b :: r, m, e => by
    unfold maxI at e
    cases q : maxI (b :: r) with
    | none => rw [q] at e; cases e
    | some k =>
      rw [q] at e
      have e : (if k ≤ a then a else k) = m := Option.some.inj e
      obtain ⟨_, h2, h3⟩ := maxI_spec q
      subst e
      refine ⟨by simp, ?_, fun y hy => ?_⟩
      · split
        · simp
        · exact List.mem_cons_of_mem _ h2
      · rcases List.mem_cons.mp hy with rfl | hy
        · split <;> omega
        · have := h3 y hy
          split <;> omega
end

def biVal : Bi → Value
  | .len => .builtin "len" | .abs => .builtin "abs" | .int => .type "int" | .tuple => .type "tuple" | .min2 => .builtin "min" | .max2 => .builtin "max"
  | .min1 => .builtin "min" | .max1 => .builtin "max" | .all => .builtin "all" | .any => .builtin "any" | .sum => .builtin "sum"
section
variable {X : Cx} {G : GG} {Lo : Addr → Prop} {H : Hp} {cs : List Addr} {st : Sto}
theorem rvals1 {L : Addr → Prop} {x : Val} {vs : List V} (r : RVals G L H cs [x] vs) : ∃ v, vs = [v] ∧ RVal G L H cs x v := by
  cases vs with
  | nil => exact r.elim
  | cons v vs =>
    cases vs with
    | nil => exact ⟨v, rfl, r.1⟩
    | cons _ _ => exact r.2.elim
theorem rvals2 {L : Addr → Prop} {x y : Val} {vs : List V} (r : RVals G L H cs [x, y] vs) : ∃ v u, vs = [v, u] ∧ RVal G L H cs x v ∧ RVal G L H cs y u := by
  cases vs with
  | nil => exact r.elim
  | cons v vs =>
    obtain ⟨r1, r2⟩ := r
    obtain ⟨u, rfl, r3⟩ := rvals1 r2
    exact ⟨v, u, rfl, r1, r3⟩
theorem sound_bi (hK : X.K = G.K) (hc : X.calm = true) {b : Bi} {xs : List Val} {z : D} {vs : List V} {Q : VK} (w : Wf G.K Lo H cs st) (e : biV st b xs = some z) (rx : RVals G (Lv Lo cs st) H cs xs vs)
    (f : Fin G Lo H cs st z Q) : WC X (biVal b) vs H Q := by
  unfold biV at e
  split at e
  · obtain ⟨v, rfl, r⟩ := rvals1 rx
    rename_i x
    cases q : seqOf st x with
    | none => rw [q] at e; cases e
    | some ys =>
      rw [q] at e
      cases e
      obtain ⟨a, us, rfl, hs, d⟩ := seq_of w r q
      refine ⟨_, call_len_seq, a, us, rfl, by rw [hK]; exact hs, ?_⟩
      rw [d.length]
      exact f.flat w (.int _)
  · cases e
    obtain ⟨v, rfl, r⟩ := rvals1 rx
    cases r
    exact ⟨_, call_abs, _, rfl, f.flat w (.int _)⟩
  · cases e
    obtain ⟨v, rfl, r⟩ := rvals1 rx
    cases r
    exact ⟨_, call_int1, .inl ⟨_, rfl, f.flat w (.int _)⟩⟩
  · cases e
    obtain ⟨v, rfl, r⟩ := rvals1 rx
    cases r
    exact ⟨_, call_int1, .inr ⟨_, rfl, f.flat w (.int _)⟩⟩
  · obtain ⟨v, rfl, r⟩ := rvals1 rx
    rename_i x
    cases q : seqOf st x with
    | none => rw [q] at e; cases e
    | some ys =>
      rw [q] at e
      cases e
      obtain ⟨a, us, rfl, hs, d⟩ := seq_of w r q
      rcases hs with hs | hs
      · refine ⟨_, call_tuple_of, a, us, rfl, .inl ⟨by rw [hK]; exact hs, fun p hp => ?_⟩⟩
        obtain ⟨s, w', d⟩ := new_tup w hp d
        exact f _ _ s w' d
      · exact ⟨_, call_tuple_of, a, us, rfl, .inr ⟨by rw [hK]; exact hs, f.flat w (.tup hs d)⟩⟩
  · cases e
    obtain ⟨v, u, rfl, r, r'⟩ := rvals2 rx
    cases r; cases r'
    exact ⟨_, call_min2 hc, _, _, rfl, f.flat w (.int _)⟩
  · cases e
    obtain ⟨v, u, rfl, r, r'⟩ := rvals2 rx
    cases r; cases r'
    exact ⟨_, call_max2 hc, _, _, rfl, f.flat w (.int _)⟩
  · obtain ⟨v, rfl, r⟩ := rvals1 rx
    obtain ⟨ys, q, e⟩ := obind e
    obtain ⟨ns, hn, e⟩ := obind e
    obtain ⟨m, hm, e⟩ := obind e
    have e : PyData.int m = z := Option.some.inj e
    subst e
    obtain ⟨a, us, rfl, hs, d⟩ := lst_of w r q
    have eu := DvAll.ints d hn
    subst eu
    obtain ⟨h1, h2, h3⟩ := minI_spec hm
    refine ⟨_, cr_min hc, a, ns, rfl, by rw [hK]; exact hs, h1, fun k h4 h5 => ?_⟩
    have : k = m := by
      have a1 := h3 k h4
      have a2 := h5 m h2
      omega
    subst this
    exact f.flat w (.int _)
  · obtain ⟨v, rfl, r⟩ := rvals1 rx
    obtain ⟨ys, q, e⟩ := obind e
    obtain ⟨ns, hn, e⟩ := obind e
    obtain ⟨m, hm, e⟩ := obind e
    have e : PyData.int m = z := Option.some.inj e
    subst e
    obtain ⟨a, us, rfl, hs, d⟩ := lst_of w r q
    have eu := DvAll.ints d hn
    subst eu
    obtain ⟨h1, h2, h3⟩ := maxI_spec hm
    refine ⟨_, cr_max hc, a, ns, rfl, by rw [hK]; exact hs, h1, fun k h4 h5 => ?_⟩
    have : k = m := by
      have a1 := h3 k h4
      have a2 := h5 m h2
      omega
    subst this
    exact f.flat w (.int _)
  · obtain ⟨v, rfl, r⟩ := rvals1 rx
    obtain ⟨ys, q, e⟩ := obind e
    obtain ⟨ns, hn, e⟩ := obind e
    have e : PyData.bool (ns.all id) = z := Option.some.inj e
    subst e
    obtain ⟨a, us, rfl, hs, d⟩ := lst_of w r q
    have eu := DvAll.bools d hn
    subst eu
    exact ⟨_, cr_all hc, a, ns, rfl, by rw [hK]; exact hs, f.flat w (.bl _)⟩
  · obtain ⟨v, rfl, r⟩ := rvals1 rx
    obtain ⟨ys, q, e⟩ := obind e
    obtain ⟨ns, hn, e⟩ := obind e
    have e : PyData.bool (ns.any id) = z := Option.some.inj e
    subst e
    obtain ⟨a, us, rfl, hs, d⟩ := lst_of w r q
    have eu := DvAll.bools d hn
    subst eu
    exact ⟨_, cr_any hc, a, ns, rfl, by rw [hK]; exact hs, f.flat w (.bl _)⟩
  · obtain ⟨v, rfl, r⟩ := rvals1 rx
    obtain ⟨ys, q, e⟩ := obind e
    obtain ⟨ns, hn, e⟩ := obind e
    have e : PyData.int ns.sum = z := Option.some.inj e
    subst e
    obtain ⟨a, us, rfl, hs, d⟩ := lst_of w r q
    have eu := DvAll.ints d hn
    subst eu
    exact ⟨_, cr_sum hc, a, ns, rfl, by rw [hK]; exact hs, f.flat w (.int _)⟩
  · cases e

/-! ### isinstance -/
def tyName : Ty → String
  | .int => "int" | .bool => "bool" | .str => "str" | .tuple => "tuple" | .list => "list"
theorem isi_ty {K : PySem.W.Frag} {Q : VK} {x : V} {T : String} {t : Ty} (ty : TyX K H x (.type T)) {b : Bool} (h : kitB T (tyName t) = some b) (q : Q (.bl b) H) : rIsi K [x, .ty (tyName t)] H Q :=
  ⟨x, .ty (tyName t), .type T, .type (tyName t), b, rfl, .ty _, ty, kit_ty h, q⟩
theorem kt_non : ∀ t, kitB "NoneType" (tyName t) = some (isTy t (.d .none)) := by intro t; cases t <;> decide +kernel
theorem kt_bool : ∀ t, kitB "bool" (tyName t) = some (isTy t (.d (.bool true))) := by intro t; cases t <;> decide +kernel
theorem kt_int : ∀ t, kitB "int" (tyName t) = some (isTy t (.d (.int 0))) := by intro t; cases t <;> decide +kernel
theorem kt_str : ∀ t, kitB "str" (tyName t) = some (isTy t (.d (.str ""))) := by intro t; cases t <;> decide +kernel
theorem kt_list : ∀ t, kitB "list" (tyName t) = some (isTy t (.d (.list []))) := by intro t; cases t <;> decide +kernel
theorem kt_tuple : ∀ t, kitB "tuple" (tyName t) = some (isTy t (.d (.tuple []))) := by intro t; cases t <;> decide +kernel
theorem sound_isi (hK : X.K = G.K) {x : Val} {v : V} {t : Ty} {Q : VK} (w : Wf G.K Lo H cs st) (rx : RVal G (Lv Lo cs st) H cs x v) (hx : (∃ y, x = .d y ∧ ∀ k, y ≠ .dict k) ∨ ∃ i xs, x = .cell i ∧ cellLst st i = some xs)
    (f : Q (.bl (isTy t x)) H) : WC X (.builtin "isinstance") [v, .ty (tyName t)] H Q := by
  rcases hx with ⟨y, rfl, hy⟩ | ⟨i, xs, rfl, q⟩
  · cases rx with
    | non => exact ⟨_, call_isi, isi_ty (.base .non) (kt_non t) (by cases t <;> exact f)⟩
    | bl b => exact ⟨_, call_isi, isi_ty (.base (.bl b)) (kt_bool t) (by cases t <;> exact f)⟩
    | int i => exact ⟨_, call_isi, isi_ty (.base (.int i)) (kt_int t) (by cases t <;> exact f)⟩
    | str x => exact ⟨_, call_isi, isi_ty (.base (.str x)) (kt_str t) (by cases t <;> exact f)⟩
    | @lst a vs ds h d => exact ⟨_, call_isi, isi_ty (.base (.lst h.1)) (kt_list t) (by cases t <;> exact f)⟩
    | @tup a vs ds h d =>
      rcases h with (h | ⟨o, h⟩) | ⟨o, its, n, h1, h2, _⟩
      · exact ⟨_, call_isi, isi_ty (.base (.tup h)) (kt_tuple t) (by cases t <;> exact f)⟩
      · exact ⟨_, call_isi, isi_ty (.fTuple h) (kt_tuple t) (by cases t <;> exact f)⟩
      · exact ⟨_, call_isi, isi_ty (.kTuple (by rw [hK]; exact h1) h2) (kt_tuple t) (by cases t <;> exact f)⟩
  · obtain ⟨a, vs, rfl, _, _, h, d⟩ := cell_of w rx q
    exact ⟨_, call_isi, isi_ty (.base (.lst h)) (kt_list t) (by cases t <;> exact f)⟩
end
end Py

set_option Elab.async false
set_option linter.all false
set_option maxRecDepth 100000
/-! IK: the checker of the interpreter's text against the given one -/
namespace Py
open PySem PySem.Spec PyProof.Rows L2

structure Sc where
  N : List Str
  sc : Scope
  fnb : Str → Bool
structure Prg where
  fs : List Fn
  consts : List (String × D)

def visB (sc : Scope) (x : Str) : Bool := match sc.names.lookup x with
  | some .local => true
  | some .cell => true
  | some .free => true
  | _ => false
def locB (C : Sc) (x : Str) : Bool := match C.sc.names.lookup x with
  | some .local => true
  | some .cell => C.fnb x
  | _ => false
def glB (C : Sc) (x : Str) : Bool := decide (C.sc.names.lookup x = some .globalImplicit)
def okN (x : Str) : Bool := !(x == ("__debug__" : Str)) && !(x == ("__classdict__" : Str))
def nameB (C : Sc) (i : Nat) (x : Str) : Bool := decide (C.N[i]? = some x) && visB C.sc x && okN x
def isNm (e : Expr) (x : Str) : Bool := match e with
  | .Name y _ => decide (y = x)
  | _ => false
/-- a built-in's name -/
def bltB (C : Sc) (x y : Str) : Bool := decide (y = x) && glB C x && okN x
def notSl : Expr → Bool
  | .Slice .. => false
  | _ => true
def notSet : Expr → Bool
  | .Set .. => false
  | _ => true
def notComp : Expr → Bool
  | .ListComp .. => false
  | .SetComp .. => false
  | .DictComp .. => false
  | _ => true
def plainT : Expr → Bool
  | .UnaryOp .. => false
  | .BoolOp .. => false
  | .IfExp .. => false
  | .Compare .. => false
  | _ => true
def isCmp : Ex → Bool
  | .cmp .. => true
  | .chain .. => true
  | .isN .. => true
  | .notN .. => true
  | _ => false
def isTupE : Expr → Bool
  | .Tuple .. => true
  | _ => false
def isNameE : Expr → Bool
  | .Name .. => true
  | _ => false
def litB : D → Const → Bool
  | .none, .none => true
  | .bool a, .bool b => a == b
  | .int a, .int b => decide (a = b)
  | .str a, .str b => decide (a = b)
  | _, _ => false
def opB : Op → Operator → Bool
  | o, p => decide (opOf o = p)
def cmB : Cm → CmpOp → Bool
  | o, p => decide (cmOf o = p)
def biName : Bi → String
  | .len => "len" | .abs => "abs" | .int => "int" | .tuple => "tuple" | .min2 => "min" | .max2 => "max" | .min1 => "min" | .max1 => "max" | .all => "all" | .any => "any" | .sum => "sum"
def biTy : Bi → Bool
  | .int => true | .tuple => true | _ => false
def blkS (C : Sc) (scope : Scope) : Sc := ⟨C.N, relS scope C.sc, fun x => scope.names.lookup x == some .cell⟩
def ownP (C : Sc) (own : List Nat) : List (Str × Nat) := own.map fun i => (C.N.getD i default, i)

mutual
def slotsT : Tg → List Nat
  | .nm i => [i]
  | .tp ts => slotsTs ts
def slotsTs : Tgs → List Nat
  | .nil => []
  | .cons t ts => slotsT t ++ slotsTs ts
end
mutual
def chkT : Tg → Sc → Expr → Bool
  | .nm i, C, e => match e with
    | .Name x _ => decide (C.N[i]? = some x) && locB C x && okN x
    | _ => false
  | .tp ts, C, e => match e with
    | .Tuple es _ _ => chkTs ts C es
    | _ => false
def chkTs : Tgs → Sc → List Expr → Bool
  | .nil, _, es => match es with
    | [] => true
    | _ => false
  | .cons t ts, C, es => match es with
    | e :: es => chkT t C e && chkTs ts C es
    | [] => false
end

section
variable (P : Prg)
mutual
def chkE : Ex → Sc → Expr → Bool
  | .v i, C, e => match e with
    | .Name x _ => nameB C i x
    | _ => false
  | .gl x c, C, e => match e with
    | .Name y _ => decide (Str.ofString x = y) && glB C y && okN y && P.consts.any fun p => decide (p.1 = x) && same p.2 c
    | _ => false
  | .lit c, C, e => match e with
    | .Constant k _ _ => litB c k
    | _ => false
  | .bin o a b, C, e => match e with
    | .BinOp l op r _ => opB o op && chkE a C l && chkE b C r
    | _ => false
  | .neg a, C, e => match e with
    | .UnaryOp .USub l _ => chkE a C l
    | _ => false
  | .nt a, C, e => match e with
    | .UnaryOp .Not l _ => chkE a C l
    | _ => false
  | .cmp c a b, C, e => match e with
    | .Compare l [op] [r] _ => cmB c op && !behindInMarks op r && chkE a C l && chkE b C r
    | _ => false
  | .chain c c' a b d, C, e => match e with
    | .Compare l [op, op'] [r, r'] _ => cmB c op && cmB c' op' && !lastMarks [op, op'] [r, r'] && chkE a C l && chkE b C r && chkE d C r'
    | _ => false
  | .isN a, C, e => match e with
    | .Compare l [.Is] [.Constant .none _ _] _ => chkE a C l
    | _ => false
  | .notN a, C, e => match e with
    | .Compare l [.IsNot] [.Constant .none _ _] _ => chkE a C l
    | _ => false
  | .and es, C, e => match e with
    | .BoolOp .And xs _ => chkEs es C xs
    | _ => false
  | .or es, C, e => match e with
    | .BoolOp .Or xs _ => chkEs es C xs
    | _ => false
  | .ite c a b, C, e => match e with
    | .IfExp t l r _ => chkT' c C t && chkE a C l && chkE b C r
    | _ => false
  | .ix a i, C, e => match e with
    | .Subscript l r _ => notSl r && chkE a C l && chkE i C r
    | _ => false
  | .sl a lo hi, C, e => match e with
    | .Subscript l (.Slice x y none _) _ => chkE a C l && chkPo lo C x && chkPo hi C y
    | _ => false
  | .tup es, C, e => match e with
    | .Tuple xs _ _ => chkEs es C xs
    | _ => false
  | .nw n, C, e => chkN n C e
  | .cellOf n, C, e => chkN n C e
  | .frz a, C, e => isNameE e && chkE a C e
  | .call f es, C, e => match e with
    | .Call (.Name x _) (y :: ys) [] _ => (match P.fs[f]? with
      | some F => decide (Str.ofString F.name = x) && decide ((y :: ys).length = F.np) && glB C x && okN x && chkEs es C (y :: ys)
      | none => false)
    | .Call (.Name x _) [] [] _ => (match es, P.fs[f]? with
      | .nil, some F => decide (Str.ofString F.name = x) && decide (F.np = 0) && glB C x && okN x
      | _, _ => false)
    | _ => false
  | .bi b es, C, e => match e with
    | .Call (.Name x _) (y :: ys) [] _ => bltB C (Str.ofString (biName b)) x && chkEs es C (y :: ys)
    | _ => false
  | .isi a t, C, e => match e with
    | .Call (.Name x _) [y, .Name z _] [] _ => bltB C "isinstance" x && chkE a C y && bltB C (Str.ofString (tyName t)) z
    | _ => false
  | .append a d, C, e => match e with
    | .Call (.Attribute o m p) [y] [] q => decide (m = ("append" : Str)) && isNameE o && (p.endLine == q.line) && chkE a C o && chkE d C y
    | _ => false
  | .pop a, C, e => match e with
    | .Call (.Attribute o m p) [] [] q => decide (m = ("pop" : Str)) && isNameE o && (p.endLine == q.line) && chkE a C o
    | _ => false
  | .popAt a d, C, e => match e with
    | .Call (.Attribute o m p) [y] [] q => decide (m = ("pop" : Str)) && isNameE o && (p.endLine == q.line) && chkE a C o && chkE d C y
    | _ => false
  | .minD a d, C, e => match e with
    | .Call (.Name x _) [y] [⟨some n, z, _⟩] _ => decide (n = Str.ofString "default") && bltB C "min" x && chkE a C y && chkE d C z
    | _ => false
termination_by structural x => x
def chkT' : Te → Sc → Expr → Bool
  | .nt a, C, e => match e with
    | .UnaryOp .Not l _ => chkT' a C l
    | _ => false
  | .and es, C, e => match e with
    | .BoolOp .And xs _ => chkTs' es C xs
    | _ => false
  | .or es, C, e => match e with
    | .BoolOp .Or xs _ => chkTs' es C xs
    | _ => false
  | .e a, C, e => chkE a C e && (plainT e || isCmp a)
termination_by structural x => x
def chkPo : Po → Sc → Option Expr → Bool
  | .no, _, e => match e with
    | none => true
    | some _ => false
  | .at a, C, e => match e with
    | some l => chkE a C l
    | none => false
termination_by structural x => x
def chkEs : Exs → Sc → List Expr → Bool
  | .nil, _, es => match es with
    | [] => true
    | _ => false
  | .cons a as, C, es => match es with
    | e :: es => chkE a C e && chkEs as C es
    | [] => false
termination_by structural x => x
def chkTs' : Tes → Sc → List Expr → Bool
  | .nil, _, es => match es with
    | [] => true
    | _ => false
  | .cons a as, C, es => match es with
    | e :: es => chkT' a C e && chkTs' as C es
    | [] => false
termination_by structural x => x
def chkN : Nw → Sc → Expr → Bool
  | .disp es, C, e => match e with
    | .List xs _ => chkEs es C xs
    | _ => false
  | .comp tg src ifs a own, C, e => match e with
    | .ListComp elt [⟨t, it, fs, z⟩] scope _ => decide (z = 0) && blkC C.N C.sc scope (ownP C own) && (slotsT tg).all (fun i => decide (i ∈ own)) && chkT tg (blkS C scope) t && chkS src C t it && notSet it &&
        chkTs' ifs (blkS C scope) fs && chkE a (blkS C scope) elt
    | _ => false
  | .ofSeq a, C, e => match e with
    | .Call (.Name x _) [y] [] _ => bltB C "list" x && chkE a C y
    | _ => false
termination_by structural x => x
def chkS : Sr → Sc → Expr → Expr → Bool
  | .ex a, C, _, e => chkE a C e
  | .rng1 a, C, _, e => match e with
    | .Call (.Name x _) [y] [] _ => bltB C "range" x && chkE a C y
    | _ => false
  | .rng2 a b, C, _, e => match e with
    | .Call (.Name x _) [y, z] [] _ => bltB C "range" x && chkE a C y && chkE b C z
    | _ => false
  | .rng3 a b c, C, _, e => match e with
    | .Call (.Name x _) [y, z, u] [] _ => bltB C "range" x && chkE a C y && chkE b C z && chkE c C u
    | _ => false
  | .zip a b, C, t, e => match e with
    | .Call (.Name x _) [y, z] [] _ => isTupE t && bltB C "zip" x && chkE a C y && chkE b C z
    | _ => false
  | .enum a, C, t, e => match e with
    | .Call (.Name x _) [y] [] _ => isTupE t && bltB C "enumerate" x && chkE a C y
    | _ => false
  | .enumz a b, C, t, e => match e with
    | .Call (.Name x _) [.Call (.Name x2 _) [y, z] [] _] [] _ => isTupE t && bltB C "enumerate" x && bltB C "zip" x2 && chkE a C y && chkE b C z
    | _ => false
termination_by structural x => x
end

/-- two names stored at once -/
def parB (C : Sc) (x y : Str) (px py : Pos) (vs : List Expr) : Bool :=
  decide (C.sc.names.lookup x = some .local) && decide (C.sc.names.lookup y = some .local) && decide (x ≠ y) && (px.line == py.line) && !(vs.all (foldedForSure 8)) && !(vs.all (constantsAlone 8))
def noParB (C : Sc) (ts : List Expr) (e : Expr) : Bool := match e with
  | .Tuple vs _ _ => (ts.any fun t => match t with
    | .Name x _ => !decide (C.sc.names.lookup x = some .local)
    | _ => true) || !(ts.length == 2 || ts.length == 3) || vs.all (foldedForSure 8)
  | _ => true
def setCompB (C : Sc) (y : Str) (py : Pos) (e : Expr) : Bool := match e with
  | .ListComp _ _ scope pos => (decide (C.sc.names.lookup y = some .local) && (py.line == pos.line) && !(scope.names.any fun (n, k) => n == y && (k == .local || k == .cell))) || !decide (C.sc.names.lookup y = some .local)
  | .SetComp .. => false
  | .DictComp .. => false
  | _ => true
mutual
def chkSt : Stm → Sc → Stmt → Bool
  | .asg (.nm i) e, C, s => match s with
    | .Assign [.Name y py] x _ => decide (C.N[i]? = some y) && locB C y && okN y && setCompB C y py x && chkE P e C x
    | _ => false
  | .asg (.tp ts) e, C, s => match s with
    | .Assign [.Tuple es _ _] x _ => chkTs ts C es && notComp x && noParB C es x && chkE P e C x
    | _ => false
  | .par2 i j a b, C, s => match s with
    | .Assign [.Tuple [.Name x px, .Name y py] _ _] (.Tuple [l, r] _ _) _ => decide (C.N[i]? = some x) && decide (C.N[j]? = some y) && decide (i ≠ j) && parB C x y px py [l, r] && chkE P a C l && chkE P b C r
    | _ => false
  | .expr e, C, s => match s with
    | .Expr x _ => notComp x && chkE P e C x
    | _ => false
  | .ret e, C, s => match s with
    | .Return (some x) _ => chkE P e C x
    | _ => false
  | .retN, C, s => match s with
    | .Return none _ => true
    | _ => false
  | .ifs c a b, C, s => match s with
    | .If t l r _ => chkT' P c C t && chkSts a C l && chkSts b C r
    | _ => false
  | .for_ tg src body, C, s => match s with
    | .For t it b [] _ => notSet it && chkT tg C t && chkS P src C t it && chkSts body C b
    | _ => false
  | .while_ _ c body, C, s => match s with
    | .While t b [] _ => chkT' P c C t && chkSts body C b
    | _ => false
  | .brk, C, s => match s with
    | .Break _ => true
    | _ => false
  | .cont, C, s => match s with
    | .Continue _ => true
    | _ => false
  | .setIx a i e, C, s => match s with
    | .Assign [.Subscript o k _] x _ => notSl k && notComp x && chkE P e C x && chkE P a C o && chkE P i C k
    | _ => false
  | .never, _, _ => true
termination_by structural x => x
def chkSts : Stms → Sc → List Stmt → Bool
  | .nil, _, ss => match ss with
    | [] => true
    | _ => false
  | .cons a as, C, ss => match ss with
    | s :: ss => chkSt a C s && chkSts as C ss
    | [] => false
termination_by structural x => x
end
end

def fnSc (F : Fn) (sc : Scope) : Sc := ⟨F.N.map Str.ofString, sc, fun _ => true⟩
def argNames (a : Arguments) : List Str := a.args.map (·.arg)
def plainArgs (a : Arguments) : Bool := a.posonlyargs.isEmpty && a.vararg.isNone && a.kwonlyargs.isEmpty && a.kw_defaults.isEmpty && a.kwarg.isNone && a.defaults.isEmpty
def scopeB (N ps : List Str) (sc : Scope) : Bool :=
  (match sc.kind with | .function => true | _ => false) && !sc.isCoroutine && !sc.isGenerator && decide N.Nodup && decide (N.take ps.length = ps) &&
    (ps.all fun x => match sc.names.lookup x with | some .local => true | some .cell => true | _ => false) && sc.names.all fun y => match y.2 with | .free => false | _ => true
def chkF (P : Prg) (F : Fn) (st : Stmt) : Bool :=
  plainArgs (defArgs st) && decide ((argNames (defArgs st)).length = F.np) && scopeB (F.N.map Str.ofString) (argNames (defArgs st)) (defScope st) && chkSts P F.body (fnSc F (defScope st)) (defBody st)
theorem scope_ok {N ps : List Str} {sc : Scope} (h : scopeB N ps sc = true) : FnScope N ps sc := by
  unfold scopeB at h
  simp only [Bool.and_eq_true, decide_eq_true_eq, List.all_eq_true, Bool.not_eq_true'] at h
  obtain ⟨⟨⟨⟨⟨⟨h1, h2⟩, h3⟩, h4⟩, h5⟩, h6⟩, h7⟩ := h
  refine ⟨?_, h2, h3, h4, h5, fun x hx => ?_, fun y hy e => ?_⟩
  · split at h1
    · assumption
    · cases h1
  · have := h6 x hx
    split at this
    · exact .inl (by assumption)
    · exact .inr (by assumption)
    · cases this
  · have := h7 y hy
    rw [e] at this
    cases this
end Py

set_option Elab.async false
set_option linter.all false
set_option maxRecDepth 100000
/-! IS: the interpreter is sound: expressions -/
namespace Py
open PySem PySem.Spec PyProof.Rows L2

/-- what a def promises -/
def SpF (G : GG) (cal : List Val → Sto → R (Val × Sto)) (np : Nat) : Sp := fun vs H Q E =>
  vs.length = np ∧ ∃ Lo cs st args, Wf G.K Lo H cs st ∧ RVals G (Lv Lo cs st) H cs args vs ∧ Post G Lo (rV G) H cs st (cal args st) Q E
def bNames : List Str := ["len", "abs", "int", "tuple", "list", "min", "max", "all", "any", "sum", "isinstance", "range", "zip", "enumerate", "bool", "str"]
structure Glob (P : Prg) (G : GG) (cal : CallF) (k : Nat) (prog : Program) (w : World) (K : PySem.W.Frag) (mg : Str → Option Value) (base : Heap) : Prop where
  fn : ∀ (f : Nat) F, P.fs[f]? = some F → mg (Str.ofString F.name) = some (.ref (G.fa f)) ∧ PySem.W.keepIn K (.ref (G.fa f)) = true ∧
    ∃ fd ps, ps.length = F.np ∧ Binds K fd ps [] ∧ FnOk prog w K mg base (L2.CX prog w) k (G.fa f) fd ps (SpF G (cal f) F.np)
  co : ∀ x c, (x, c) ∈ P.consts → ∃ u v, mg (Str.ofString x) = some u ∧ RelV v u ∧ ∀ H L, Dv K H L v c
  blt : ∀ x ∈ bNames, mg x = none
structure Ctx (P : Prg) (G : GG) (cal : CallF) (k : Nat) (X : Cx) (C : Sc) (E : XK) : Prop where
  K : X.K = G.K
  N : X.N = C.N
  sc : X.env.scope = C.sc
  fn : X.fn = C.fnb
  kind : X.env.scope.kind = .function
  calm : X.calm = true
  nd : C.N.Nodup
  room : Room k X.A
  thr : Passes (L2.CX X.prog X.w) X E
  glob : Glob P G cal k X.prog X.w X.K X.mg X.base

/-! ### small syntax -/
theorem okN_of {x : Str} (h : okN x = true) : (x == ("__debug__" : Str)) = false ∧ (x == ("__classdict__" : Str)) = false := by
  unfold okN at h
  rw [Bool.and_eq_true, Bool.not_eq_true', Bool.not_eq_true'] at h
  exact h
theorem vis_of {sc : Scope} {x : Str} (h : visB sc x = true) : Vis sc x := by
  unfold visB at h
  split at h
  · exact .inl (by assumption)
  · exact .inr (.inl (by assumption))
  · exact .inr (.inr (by assumption))
  · cases h
def NS (e : Expr) : Prop := ∀ (es : List Expr) (env : Env), starEach (e :: es) env = (false, eval e env) :: starEach es env
theorem ns_of {e : Expr} (h : ∀ x p, e ≠ .Starred x p) : NS e := by
  intro es env
  cases e <;> first | rfl | exact absurd rfl (h _ _)

section
variable {P : Prg} {G : GG} {cal : CallF} {k : Nat} {X : Cx} {C : Sc} {E : XK} {Lo : Addr → Prop} {H : Hp} {cs : List Addr} {st : Sto} {env : En} {σ : L2.St}
theorem Ctx.un (c : Ctx P G cal k X C E) : X.A.units + 65 < cLine := by
  have := c.room.un
  omega
theorem Ctx.gl (c : Ctx P G cal k X C E) {x : Str} (h : glB C x = true) : Gl X x := by
  have : C.sc.names.lookup x = some .globalImplicit := of_decide_eq_true h
  show X.env.scope.names.lookup x = some .globalImplicit
  rw [c.sc]
  exact this
theorem bltB_of {x y : Str} (h : bltB C x y = true) : y = x ∧ glB C x = true ∧ okN x = true := by
  unfold bltB at h
  simp only [Bool.and_eq_true, decide_eq_true_eq] at h
  exact ⟨h.1.1, h.1.2, h.2⟩
theorem Ctx.blt (c : Ctx P G cal k X C E) {x y : Str} (h : bltB C x y = true) (hx : x ∈ bNames) : y = x ∧ Gl X x ∧ X.mg x = none := by
  obtain ⟨h1, h2, _⟩ := bltB_of h
  exact ⟨h1, c.gl h2, c.glob.blt x hx⟩
/-- a name read -/
theorem s_name (c : Ctx P G cal k X C E) {i : Nat} {x : Str} {p : Pos} (h : nameB C i x = true) {v : V} {Q : VK} (e : σ[i]? = some (some v)) (q : Q v H) : WE X (.Name x p) σ H Q := by
  unfold nameB at h
  simp only [Bool.and_eq_true, decide_eq_true_eq] at h
  obtain ⟨⟨h1, h2⟩, h3⟩ := h
  obtain ⟨o1, o2⟩ := okN_of h3
  exact ⟨_, pe_var (by rw [c.N]; exact h1) (by rw [c.sc]; exact vis_of h2) o1 o2, v, e, q⟩
theorem s_lit {d : D} {u : Const} {j : Nat} {p : Pos} (h : litB d u = true) {Q : VK} (q : ∀ v, Dv G.K H (Lv Lo cs st) v d → Q v H) : WE X (.Constant u j p) σ H Q := by
  unfold litB at h
  split at h
  · exact ⟨_, pe_non, q _ .non⟩
  · have := eq_of_beq h
    subst this
    exact ⟨_, pe_bl, q _ (.bl _)⟩
  · have := of_decide_eq_true h
    subst this
    exact ⟨_, pe_int, q _ (.int _)⟩
  · have := of_decide_eq_true h
    subst this
    exact ⟨_, pe_str, q _ (.str _)⟩
  · cases h
theorem s_glob (c : Ctx P G cal k X C E) {x : String} {y : Str} {d : D} {p : Pos} (h : (decide (Str.ofString x = y) && glB C y && okN y && P.consts.any fun p => decide (p.1 = x) && same p.2 d) = true) {Q : VK}
    (q : ∀ v, Dv G.K H (Lv Lo cs st) v d → Q v H) : WE X (.Name y p) σ H Q := by
  simp only [Bool.and_eq_true, decide_eq_true_eq, List.any_eq_true] at h
  obtain ⟨⟨⟨h1, h2⟩, h3⟩, ⟨⟨x', d'⟩, hm, h4, h5⟩⟩ := h
  have h4 : x' = x := h4
  have h5 := eq_of_same _ _ h5
  have h5 : d' = d := h5
  subst h4 h5 h1
  obtain ⟨u, v, e1, r, dv⟩ := c.glob.co _ _ hm
  exact ⟨_, pe_glob (c.gl h2) e1 r (okN_of h3).1, q v (by rw [← c.K]; exact dv _ _)⟩
end

/-! ### and, or, tests -/
theorem star_all {es : List Expr} {env : Env} {pos : Pos} (h : starEach es env = es.map fun e => (false, eval e env)) : (backTo pos (starEach es env)).any (·.1) = false := by
  rw [h]
  unfold backTo
  simp [List.any_map, List.any_eq_false]
end Py

set_option Elab.async false
set_option linter.all false
set_option maxRecDepth 100000
set_option maxHeartbeats 4000000
/-! IE: the interpreter is sound: expressions, by induction on the text -/
namespace Py
open PySem PySem.Spec PyProof.Rows L2

section
variable (P : Prg) (G : GG) (cal : CallF) (k : Nat)
def SE (a : Ex) : Prop := ∀ {X : Cx} {C : Sc} {E : XK} {e : Expr} {Lo : Addr → Prop} {H : Hp} {cs : List Addr} {st : Sto} {env : En} {σ : L2.St} {Q : VK}, Ctx P G cal k X C E → chkE P a C e = true →
  Wf G.K Lo H cs st → REnv G (Lv Lo cs st) H cs env σ → Post G Lo (rV G) H cs st (evalE cal a env st) Q E → WE X e σ H Q
def ST (a : Te) : Prop := ∀ {X : Cx} {C : Sc} {E : XK} {e : Expr} {Lo : Addr → Prop} {H : Hp} {cs : List Addr} {st : Sto} {env : En} {σ : L2.St} {Q : Bool → Hp → Prop}, Ctx P G cal k X C E → chkT' P a C e = true →
  Wf G.K Lo H cs st → REnv G (Lv Lo cs st) H cs env σ → Post G Lo (rEq Bool) H cs st (evalT cal a env st) Q E → WT X e σ H Q
def SEs (a : Exs) : Prop := ∀ {X : Cx} {C : Sc} {E : XK} {e : List Expr} {Lo : Addr → Prop} {H : Hp} {cs : List Addr} {st : Sto} {env : En} {σ : L2.St} {Q : List V → Hp → Prop}, Ctx P G cal k X C E → chkEs P a C e = true →
  Wf G.K Lo H cs st → REnv G (Lv Lo cs st) H cs env σ → Post G Lo (rVs G) H cs st (evalEs cal a env st) Q E → WA X e σ H Q
def SDs (a : Exs) : Prop := ∀ {X : Cx} {C : Sc} {E : XK} {e : List Expr} {Lo : Addr → Prop} {H : Hp} {cs : List Addr} {st : Sto} {env : En} {σ : L2.St} {Q : List V → Hp → Prop}, Ctx P G cal k X C E → chkEs P a C e = true →
  Wf G.K Lo H cs st → REnv G (Lv Lo cs st) H cs env σ → Post G Lo (rDs G) H cs st (evalDs cal a env st) Q E → WA X e σ H Q
def SAnd (a : Exs) : Prop := ∀ {X : Cx} {C : Sc} {E : XK} {e : List Expr} {p : Pos} {Lo : Addr → Prop} {H : Hp} {cs : List Addr} {st : Sto} {env : En} {σ : L2.St} {Q : VK}, Ctx P G cal k X C E → chkEs P a C e = true →
  Wf G.K Lo H cs st → REnv G (Lv Lo cs st) H cs env σ → Post G Lo (rV G) H cs st (evalAnd cal a env st) Q E → WE X (.BoolOp .And e p) σ H Q
def SOr (a : Exs) : Prop := ∀ {X : Cx} {C : Sc} {E : XK} {e : List Expr} {p : Pos} {Lo : Addr → Prop} {H : Hp} {cs : List Addr} {st : Sto} {env : En} {σ : L2.St} {Q : VK}, Ctx P G cal k X C E → chkEs P a C e = true →
  Wf G.K Lo H cs st → REnv G (Lv Lo cs st) H cs env σ → Post G Lo (rV G) H cs st (evalOr cal a env st) Q E → WE X (.BoolOp .Or e p) σ H Q
def SAndT (a : Tes) : Prop := ∀ {X : Cx} {C : Sc} {E : XK} {e : List Expr} {p : Pos} {Lo : Addr → Prop} {H : Hp} {cs : List Addr} {st : Sto} {env : En} {σ : L2.St} {Q : Bool → Hp → Prop}, Ctx P G cal k X C E → chkTs' P a C e = true →
  Wf G.K Lo H cs st → REnv G (Lv Lo cs st) H cs env σ → Post G Lo (rEq Bool) H cs st (evalAndT cal a env st) Q E → WP X (.BoolOp .And e p) σ H Q
def SOrT (a : Tes) : Prop := ∀ {X : Cx} {C : Sc} {E : XK} {e : List Expr} {p : Pos} {Lo : Addr → Prop} {H : Hp} {cs : List Addr} {st : Sto} {env : En} {σ : L2.St} {Q : Bool → Hp → Prop}, Ctx P G cal k X C E → chkTs' P a C e = true →
  Wf G.K Lo H cs st → REnv G (Lv Lo cs st) H cs env σ → Post G Lo (rEq Bool) H cs st (evalOrT cal a env st) Q E → WP X (.BoolOp .Or e p) σ H Q
def SIfs (a : Tes) : Prop := ∀ {X : Cx} {C : Sc} {E : XK} {e : List Expr} {Lo : Addr → Prop} {H : Hp} {cs : List Addr} {st : Sto} {env : En} {σ : L2.St} {Q : Bool → Hp → Prop}, Ctx P G cal k X C E → chkTs' P a C e = true →
  Wf G.K Lo H cs st → REnv G (Lv Lo cs st) H cs env σ → Post G Lo (rEq Bool) H cs st (evalIfs cal a env st) Q E → WPT X e σ H Q
def SPo (a : Po) : Prop := ∀ {X : Cx} {C : Sc} {E : XK} {e : Option Expr} {Lo : Addr → Prop} {H : Hp} {cs : List Addr} {st : Sto} {env : En} {σ : L2.St} {Q : Option Int → Hp → Prop}, Ctx P G cal k X C E → chkPo P a C e = true →
  Wf G.K Lo H cs st → REnv G (Lv Lo cs st) H cs env σ → Post G Lo (rEq (Option Int)) H cs st (evalPo cal a env st) Q E → WO X e σ H Q
/-- Lo and one more -/
abbrev Lp (Lo : Addr → Prop) (p : Addr) : Addr → Prop := fun a => Lo a ∨ a = p
/-- a fresh list: it is at a new address and nobody holds it -/
def rN (G : GG) (Lo : Addr → Prop) (H₀ : Hp) : Rel (List D) V := fun _ H cs st xs v => ∃ p vs, v = .ref p ∧ H₀ p = none ∧ H p = some (.lst vs) ∧ Wf G.K (Lp Lo p) H cs st ∧ DvAll G.K H (Lv (Lp Lo p) cs st) vs xs
def SN (a : Nw) : Prop := ∀ {X : Cx} {C : Sc} {E : XK} {e : Expr} {Lo : Addr → Prop} {H : Hp} {cs : List Addr} {st : Sto} {env : En} {σ : L2.St} {Q : VK}, Ctx P G cal k X C E → chkN P a C e = true →
  Wf G.K Lo H cs st → REnv G (Lv Lo cs st) H cs env σ → Post G Lo (rN G Lo H) H cs st (evalN cal a env st) Q E → WE X e σ H Q
/-- what a loop walks -/
def gEq (g : Option Nat) (s s' : Sto) : Prop := ∀ i, g = some i → cellLst s' i = cellLst s i
structure SrcOk (G : GG) (J : It) (items : List D) (g : Option Nat) (A : (Addr → Prop) → Hp → List Addr → Sto → Prop) : Prop where
  st : ∀ L H cs s L' H' cs' s', A L H cs s → Kp L H L' H' → cs <+: cs' → gEq g s s' → A L' H' cs' s'
  go : ∀ (i : Nat) Lo H cs s, Wf G.K Lo H cs s → A (Lv Lo cs s) H cs s → i < items.length → J.go i H
  stop : ∀ Lo H cs s, Wf G.K Lo H cs s → A (Lv Lo cs s) H cs s → J.stop items.length H
  yld : ∀ (i : Nat) Lo H cs s x H' d, Wf G.K Lo H cs s → A (Lv Lo cs s) H cs s → J.yld i H x H' → items[i]? = some d → Stp Lo H cs s H' cs s ∧ Wf G.K Lo H' cs s ∧ Dv G.K H' (Lv Lo cs s) x d
def rS (G : GG) : Rel (List D × Option Nat) It := fun L H cs st p J => ∃ A, SrcOk G J p.1 p.2 A ∧ A L H cs st
def SS (a : Sr) : Prop := ∀ {X : Cx} {C : Sc} {E : XK} {t e : Expr} {Lo : Addr → Prop} {H : Hp} {cs : List Addr} {st : Sto} {env : En} {σ : L2.St} {Q : It → Hp → Prop}, Ctx P G cal k X C E → chkS P a C t e = true →
  Wf G.K Lo H cs st → REnv G (Lv Lo cs st) H cs env σ → Post G Lo (rS G) H cs st (evalSr cal a env st) Q E → WI X t e σ H Q
end

section
variable {P : Prg} {G : GG} {cal : CallF} {k : Nat}
theorem no_star (x : Expr) (p : Pos) (C : Sc) : ∀ a : Ex, chkE P a C (.Starred x p) = false := by
  intro a
  cases a with
  | nw n => cases n <;> rfl
  | cellOf n => cases n <;> rfl
  | frz a => rfl
  | _ => rfl
theorem chkE_ns {a : Ex} {C : Sc} {e : Expr} (h : chkE P a C e = true) : NS e := ns_of fun x p z => by
  subst z
  rw [no_star] at h
  cases h
theorem chkEs_star : ∀ {a : Exs} {C : Sc} {es : List Expr} (env : Env), chkEs P a C es = true → starEach es env = es.map fun e => (false, eval e env)
  | .nil, C, es, env, h => by
    cases es with
    | nil => rfl
    | cons _ _ => cases h
  | .cons a as, C, es, env, h => by
    cases es with
    | nil => cases h
    | cons e es =>
      have h : (chkE P a C e && chkEs P as C es) = true := h
      rw [Bool.and_eq_true] at h
      rw [chkE_ns h.1 es env, chkEs_star env h.2]
      rfl
theorem cell_from {Lo : Addr → Prop} {H : Hp} {cs : List Addr} {st : Sto} {p : Addr} {xs : List D} {vs : List V} (w : Wf G.K (Lp Lo p) H cs st) (e : H p = some (.lst vs)) (d : DvAll G.K H (Lv (Lp Lo p) cs st) vs xs) (n : ¬ Lo p) :
    Wf G.K Lo H (cs ++ [p]) (st ++ [.lst xs]) := by
  have hl : Lv Lo (cs ++ [p]) (st ++ [.lst xs]) = Lv (Lp Lo p) cs st := by
    funext a
    apply propext
    rw [lv_snoc w.len (fun z => by cases z)]
    unfold Lv Lp
    constructor
    · rintro ((h | h) | h)
      · exact Or.inl (Or.inl h)
      · exact Or.inr h
      · exact Or.inl (Or.inr h)
    · rintro ((h | h) | h)
      · exact Or.inl (Or.inl h)
      · exact Or.inr h
      · exact Or.inl (Or.inr h)
  refine ⟨by simp [w.len], ?_, fun b hb l => ?_, fun b l => w.outT b (.inl l), fun j b c e1 e2 => ?_⟩
  · rw [List.nodup_append]
    refine ⟨w.nd, by simp, fun a ha b hb => ?_⟩
    have : b = p := by simpa using hb
    subst this
    exact fun z => w.out a ha (.inr z)
  · rcases List.mem_append.mp hb with hb | hb
    · exact w.out b hb (.inl l)
    · have : b = p := by simpa using hb
      subst this
      exact n l
  · rw [hl]
    by_cases hj : j < cs.length
    · rw [List.getElem?_append_left hj] at e1
      rw [List.getElem?_append_left (by rw [← w.len]; exact hj)] at e2
      exact w.cell j b c e1 e2
    · rw [List.getElem?_append_right (by omega)] at e1
      rw [List.getElem?_append_right (by rw [← w.len]; omega)] at e2
      have z : j - cs.length = 0 := by
        cases q : j - cs.length with
        | zero => rfl
        | succ m => rw [q] at e1; simp at e1
      rw [z] at e1
      rw [← w.len, z] at e2
      have e1 : p = b := by simpa using e1
      have e2 : Cell.lst xs = c := by simpa using e2
      subst e1 e2
      exact ⟨vs, e, d⟩
theorem lv_lp {Lo : Addr → Prop} {cs : List Addr} {st : Sto} {p a : Addr} (h : Lv Lo cs st a) : Lv (Lp Lo p) cs st a := by
  rcases h with h | h
  · exact Or.inl (Or.inl h)
  · exact Or.inr h
theorem lv_lp' {Lo : Addr → Prop} {cs : List Addr} {st : Sto} {p a : Addr} (h : Lv (Lp Lo p) cs st a) : Lv Lo cs st a ∨ a = p := by
  rcases h with (h | h) | h
  · exact Or.inl (Or.inl h)
  · exact Or.inr h
  · exact Or.inl (Or.inr h)
theorem kp_lp {Lo : Addr → Prop} {H : Hp} {cs : List Addr} {st : Sto} {p : Addr} : Kp (Lv (Lp Lo p) cs st) H (Lv Lo cs st) H := ⟨fun a o e n => ⟨e, fun z => n (lv_lp z)⟩, fun a o e _ => e⟩
/-- one live object less -/
theorem Wf.unlp {Lo : Addr → Prop} {H : Hp} {cs : List Addr} {st : Sto} {p : Addr} (w : Wf G.K (Lp Lo p) H cs st) : Wf G.K Lo H cs st :=
  ⟨w.len, w.nd, fun a ha l => w.out a ha (.inl l), fun a l => w.outT a (.inl l), fun i a c e1 e2 => (w.cell i a c e1 e2).kp kp_lp rfl⟩
/-- a fresh list as data -/
theorem new_data {Lo : Addr → Prop} {H₀ H : Hp} {cs₀ cs : List Addr} {st₀ st : Sto} {p : Addr} {xs : List D} {vs : List V} (w₀ : Wf G.K Lo H₀ cs₀ st₀) (n : H₀ p = none) (w : Wf G.K (Lp Lo p) H cs st) (e : H p = some (.lst vs)) (d : DvAll G.K H (Lv (Lp Lo p) cs st) vs xs) :
    Wf G.K Lo H cs st ∧ Dv G.K H (Lv Lo cs st) (.ref p) (.list xs) := by
  refine ⟨w.unlp, .lst ⟨e, fun z => ?_⟩ (DvAll.kp kp_lp d)⟩
  rcases z with z | ⟨i, h, c, _, _⟩
  · exact w₀.fresh n (Or.inl z)
  · exact w.out p (List.mem_of_getElem? h) (.inr rfl)
/-- a fresh list as a cell -/
theorem new_cell {Lo : Addr → Prop} {H₀ H : Hp} {cs₀ cs : List Addr} {st₀ st : Sto} {p : Addr} {xs : List D} {vs : List V} (w₀ : Wf G.K Lo H₀ cs₀ st₀) (s : Stp Lo H₀ cs₀ st₀ H cs st) (n : H₀ p = none) (w : Wf G.K (Lp Lo p) H cs st) (e : H p = some (.lst vs))
    (d : DvAll G.K H (Lv (Lp Lo p) cs st) vs xs) : Wf G.K Lo H (cs ++ [p]) (st ++ [.lst xs]) ∧ Stp Lo H₀ cs₀ st₀ H (cs ++ [p]) (st ++ [.lst xs]) := by
  refine ⟨cell_from w e d fun z => w₀.fresh n (Or.inl z), ⟨⟨fun a o ea na => ?_, s.kp.imm⟩, s.out, s.pre.trans (List.prefix_append _ _)⟩⟩
  obtain ⟨h1, h2⟩ := s.kp.keep a o ea na
  refine ⟨h1, fun z => ?_⟩
  rcases (lv_snoc w.len (fun z => by cases z)).mp z with z | z
  · exact h2 z
  · subst z
    rw [n] at ea
    cases ea

/-! ### targets -/
theorem no_starT (x : Expr) (p : Pos) (C : Sc) : ∀ a : Tg, chkT a C (.Starred x p) = false := by
  intro a
  cases a <;> rfl
theorem chkTs_each : ∀ {a : Tgs} {C : Sc} {es : List Expr} (env : Env), chkTs a C es = true → assignEach es env = es.map fun e => (false, assign e env)
  | .nil, C, es, env, h => by
    cases es with
    | nil => rfl
    | cons _ _ => cases h
  | .cons a as, C, es, env, h => by
    cases es with
    | nil => cases h
    | cons e es =>
      have h : (chkT a C e && chkTs as C es) = true := h
      rw [Bool.and_eq_true] at h
      have ih := chkTs_each (es := es) env h.2
      have : assignEach (e :: es) env = (false, assign e env) :: assignEach es env := by
        cases e <;> first | rfl | (rw [no_starT] at h; exact absurd h.1 (by simp))
      rw [this, ih]
      rfl
theorem asgTs_len : ∀ {ts : Tgs} {xs : List D} {env env' : En} {C : Sc} {es : List Expr}, chkTs ts C es = true → asgTs ts xs env = some env' → xs.length = es.length
  | .nil, xs, env, env', C, es, h, e => by
    cases es with
    | cons _ _ => cases h
    | nil =>
      cases xs with
      | nil => rfl
      | cons _ _ => cases e
  | .cons t ts, xs, env, env', C, es, h, e => by
    cases es with
    | nil => cases h
    | cons a es =>
      have h : (chkT t C a && chkTs ts C es) = true := h
      rw [Bool.and_eq_true] at h
      cases xs with
      | nil => cases e
      | cons x xs =>
        unfold asgTs at e
        split at e
        · simp [asgTs_len h.2 e]
        · cases e
theorem loc_of {X : Cx} {C : Sc} {E : XK} (c : Ctx P G cal k X C E) {x : Str} (h : locB C x = true) : Loc X.env.scope x ∧ (X.fn x = true ∨ X.env.scope.names.lookup x = some .local) := by
  unfold locB at h
  rw [c.sc, c.fn]
  split at h
  · exact ⟨.inl (by assumption), .inr (by assumption)⟩
  · exact ⟨.inr (by assumption), .inl h⟩
  · cases h
mutual
theorem sTg : ∀ (t : Tg) {X : Cx} {C : Sc} {E : XK} {e : Expr} {L : Addr → Prop} {H : Hp} {cs : List Addr} {env env' : En} {σ : L2.St} {x : D} {v : V} {Q : L2.St → Hp → Prop}, Ctx P G cal k X C E → chkT t C e = true → asgT t x env = some env' →
    REnv G L H cs env σ → Dv G.K H L v x → (∀ σ', REnv G L H cs env' σ' → (∀ j, j ∉ slotsT t → σ'[j]? = σ[j]?) → σ'.length = σ.length → Q σ' H) → WG X e v σ H Q
  | .nm i, X, C, E, e, L, H, cs, env, env', σ, x, v, Q, c, h, a, r, d, q => by
    unfold chkT at h
    split at h
    · rename_i y p
      simp only [Bool.and_eq_true, decide_eq_true_eq] at h
      obtain ⟨⟨h1, h2⟩, h3⟩ := h
      obtain ⟨l1, l2⟩ := loc_of c h2
      unfold asgT at a
      split at a
      · cases a
        refine ⟨_, pg_name (i := i) (by rw [c.N]; exact c.nd) (by rw [c.N]; exact h1) l1 l2, q _ (r.set (x := .d x) d i) (fun j hj => ?_) (by simp)⟩
        have : j ≠ i := fun z => hj (by rw [z]; exact List.mem_singleton.mpr rfl)
        rw [List.getElem?_set_ne (Ne.symm this)]
      · cases a
    · cases h
  | .tp ts, X, C, E, e, L, H, cs, env, env', σ, x, v, Q, c, h, a, r, d, q => by
    unfold chkT at h
    split at h
    · rename_i es kk p
      cases x with
      | tuple xs =>
        have a : asgTs ts xs env = some env' := a
        cases d with
        | tup hs da =>
          refine ⟨_, pg_tup (n := es.length) c.calm pgs_c (by rw [chkTs_each _ h]; simp) (by rw [chkTs_each _ h]; simp [List.findIdx?_eq_none_iff]), _, _, rfl, by rw [c.K]; exact hs, ?_, ?_⟩
          · rw [da.length]
            exact asgTs_len h a
          · exact sTgs ts c h a r da q
      | _ => cases a
    · cases h
theorem sTgs : ∀ (t : Tgs) {X : Cx} {C : Sc} {E : XK} {e : List Expr} {L : Addr → Prop} {H : Hp} {cs : List Addr} {env env' : En} {σ : L2.St} {x : List D} {v : List V} {Q : L2.St → Hp → Prop}, Ctx P G cal k X C E → chkTs t C e = true → asgTs t x env = some env' →
    REnv G L H cs env σ → DvAll G.K H L v x → (∀ σ', REnv G L H cs env' σ' → (∀ j, j ∉ slotsTs t → σ'[j]? = σ[j]?) → σ'.length = σ.length → Q σ' H) → WGs X e v σ H Q
  | .nil, X, C, E, e, L, H, cs, env, env', σ, x, v, Q, c, h, a, r, d, q => by
    cases e with
    | cons _ _ => cases h
    | nil =>
      cases x with
      | cons _ _ => cases a
      | nil =>
        cases a
        cases d
        exact ⟨_, pgs_nil, rfl, q σ r (fun _ _ => rfl) rfl⟩
  | .cons t ts, X, C, E, e, L, H, cs, env, env', σ, x, v, Q, c, h, a, r, d, q => by
    cases e with
    | nil => cases h
    | cons e es =>
      have h0 := h
      have h : (chkT t C e && chkTs ts C es) = true := h
      rw [Bool.and_eq_true] at h
      cases x with
      | nil => cases a
      | cons x xs =>
        unfold asgTs at a
        split at a
        · rename_i env1 he
          cases d with
          | cons d1 d2 =>
            refine ⟨_, pgs_cons pg_c pgs_c (by rw [chkTs_each _ h0, chkTs_each _ h.2]; rfl), _, _, rfl, ?_⟩
            refine sTg t c h.1 he r d1 fun σ1 r1 k1 l1 => ?_
            refine sTgs ts c h.2 a r1 d2 fun σ2 r2 k2 l2 => ?_
            refine q σ2 r2 (fun j hj => ?_) (l2.trans l1)
            have hj : j ∉ slotsT t ++ slotsTs ts := hj
            rw [List.mem_append, not_or] at hj
            exact (k2 j hj.2).trans (k1 j hj.1)
        · cases a
end
end
end Py

set_option Elab.async false
set_option linter.all false
set_option maxRecDepth 100000
set_option maxHeartbeats 4000000
/-! IF: comprehensions -/
namespace Py
open PySem PySem.Spec PyProof.Rows L2

section
variable {P : Prg} {G : GG} {cal : CallF} {k : Nat} {X : Cx} {C : Sc} {E : XK}

theorem wipe_get {σ : L2.St} {i : Nat} : ∀ {vs : List Nat}, i ∉ vs → (wipe σ vs)[i]? = σ[i]?
  | [], _ => rfl
  | v :: vs, h => by
    rw [List.mem_cons, not_or] at h
    unfold wipe
    rw [List.getElem?_set_ne (Ne.symm h.1)]
    exact wipe_get h.2
theorem wipe_in {σ : L2.St} {i : Nat} : ∀ {vs : List Nat}, i ∈ vs → i < σ.length → (wipe σ vs)[i]? = some none
  | [], h, _ => by cases h
  | v :: vs, h, hl => by
    unfold wipe
    by_cases hv : v = i
    · subst hv
      rw [List.getElem?_set_self (by rw [wipe_length]; exact hl)]
    · rw [List.getElem?_set_ne hv]
      rcases List.mem_cons.mp h with z | z
      · exact absurd z.symm hv
      · exact wipe_in z hl
theorem wipeE_len {env : En} : ∀ {vs : List Nat}, (wipeE env vs).length = env.length
  | [] => rfl
  | v :: vs => by
    unfold wipeE
    rw [List.length_set, wipeE_len]
theorem wipeE_some {env : En} {i : Nat} {x : Val} : ∀ {vs : List Nat}, (wipeE env vs)[i]? = some (some x) → env[i]? = some (some x) ∧ i ∉ vs
  | [], h => ⟨h, by simp⟩
  | v :: vs, h => by
    unfold wipeE at h
    by_cases hi : v = i
    · subst hi
      by_cases hv : v < (wipeE env vs).length
      · rw [List.getElem?_set_self hv] at h; cases h
      · rw [List.getElem?_eq_none (by simpa using hv)] at h; cases h
    · rw [List.getElem?_set_ne hi] at h
      obtain ⟨h1, h2⟩ := wipeE_some h
      exact ⟨h1, by simp only [List.mem_cons, not_or]; exact ⟨fun e => hi e.symm, h2⟩⟩
theorem REnv.wipe {L : Addr → Prop} {H : Hp} {cs : List Addr} {env : En} {σ : L2.St} (r : REnv G L H cs env σ) (vs : List Nat) : REnv G L H cs (wipeE env vs) (L2.wipe σ vs) := by
  refine ⟨by rw [wipeE_len, wipe_length]; exact r.len, fun i x e => ?_⟩
  obtain ⟨e1, h⟩ := wipeE_some e
  rw [wipe_get h]
  exact r.get i x e1
theorem wipe_same {σ σ' : L2.St} {vs ws : List Nat} (h : ∀ j, j ∉ ws → σ'[j]? = σ[j]?) (hl : σ'.length = σ.length) (hw : ∀ j ∈ ws, j ∈ vs) : wipe σ' vs = wipe σ vs := by
  apply List.ext_getElem?
  intro j
  by_cases hj : j ∈ vs
  · by_cases hlen : j < σ.length
    · rw [wipe_in hj hlen, wipe_in hj (by rw [hl]; exact hlen)]
    · rw [List.getElem?_eq_none (by rw [wipe_length]; omega), List.getElem?_eq_none (by rw [wipe_length]; omega)]
  · rw [wipe_get hj, wipe_get hj]
    exact h j fun z => hj (hw j z)
theorem wipe_wipe {σ : L2.St} {vs : List Nat} : wipe (wipe σ vs) vs = wipe σ vs :=
  wipe_same (ws := vs) (fun j hj => wipe_get hj) (wipe_length _ _) fun _ h => h

/-! ### a live object that we write -/
theorem kp_outer {Lo : Addr → Prop} {H : Hp} {cs : List Addr} {st : Sto} {p : Addr} {vs ws : List V} (l : Lo p) (e : H p = some (.lst ws)) : Kp (Lv Lo cs st) H (Lv Lo cs st) (upd H p (.lst vs)) := by
  refine ⟨fun a o ea n => ⟨?_, n⟩, fun a o ea im => ?_⟩
  · rw [upd_ne (show a ≠ p from fun z => by subst z; exact n (Or.inl l))]
    exact ea
  · rw [upd_ne (show a ≠ p from fun z => by
      subst z
      rw [e] at ea
      cases ea
      exact im)]
    exact ea
theorem Wf.outer {Lo : Addr → Prop} {H : Hp} {cs : List Addr} {st : Sto} {p : Addr} {vs ws : List V} (w : Wf G.K Lo H cs st) (l : Lo p) (e : H p = some (.lst ws)) : Wf G.K Lo (upd H p (.lst vs)) cs st := by
  refine ⟨w.len, w.nd, w.out, fun a la => ?_, fun i a c e1 e2 => ?_⟩
  · by_cases h : a = p
    · subst h
      exact ⟨vs, upd_same⟩
    · rw [upd_ne h]
      exact w.outT a la
  · refine (w.cell i a c e1 e2).kp (kp_outer l e) ?_
    rw [upd_ne (show a ≠ p from fun z => by subst z; exact w.out a (List.mem_of_getElem? e1) l)]
theorem kp_in {Lo : Addr → Prop} {H : Hp} {cs : List Addr} {st : Sto} {p : Addr} (n : H p = none) : Kp (Lv Lo cs st) H (Lv (Lp Lo p) cs st) H :=
  ⟨fun a o e na => ⟨e, fun z => (lv_lp' z).elim na fun z => by subst z; rw [n] at e; cases e⟩, fun _ _ e _ => e⟩
/-- a new live object -/
theorem Wf.enter {Lo : Addr → Prop} {H : Hp} {cs : List Addr} {st : Sto} {p : Addr} {vs : List V} (w : Wf G.K Lo H cs st) (n : H p = none) :
    Wf G.K (Lp Lo p) (upd H p (.lst vs)) cs st ∧ Kp (Lv Lo cs st) H (Lv (Lp Lo p) cs st) (upd H p (.lst vs)) := by
  have kk : Kp (Lv Lo cs st) H (Lv (Lp Lo p) cs st) (upd H p (.lst vs)) := (kp_in n).trans (kp_upd n)
  refine ⟨⟨w.len, w.nd, fun a ha l => ?_, fun a l => ?_, fun i a c e1 e2 => ?_⟩, kk⟩
  · rcases l with l | l
    · exact w.out a ha l
    · subst l
      obtain ⟨i, hi⟩ := List.getElem?_of_mem ha
      obtain ⟨o, e⟩ := w.there hi
      rw [n] at e
      cases e
  · rcases l with l | l
    · obtain ⟨xs, e⟩ := w.outT a l
      exact ⟨xs, by rw [upd_ne (ne_of_none e n)]; exact e⟩
    · subst l
      exact ⟨vs, upd_same⟩
  · obtain ⟨u, e⟩ := w.there e1
    exact (w.cell i a c e1 e2).kp kk (by rw [upd_ne (ne_of_none e n)])
theorem Stp.inner {Lo : Addr → Prop} {H H1 H2 : Hp} {cs cs1 cs2 : List Addr} {st st1 st2 : Sto} {p : Addr} (a : Stp Lo H cs st H1 cs1 st1) (b : Stp (Lp Lo p) H1 cs1 st1 H2 cs2 st2) (n : H p = none) : Stp Lo H cs st H2 cs2 st2 := by
  refine ⟨⟨fun x o e nl => ?_, fun x o e i => b.kp.imm x o (a.kp.imm x o e i) i⟩, fun x l => (b.out x (.inl l)).trans (a.out x l), a.pre.trans b.pre⟩
  obtain ⟨h1, h2⟩ := a.kp.keep x o e nl
  have h3 : ¬ Lv (Lp Lo p) cs1 st1 x := fun z => (lv_lp' z).elim h2 fun z => by subst z; rw [n] at e; cases e
  obtain ⟨h4, h5⟩ := b.kp.keep x o h1 h3
  exact ⟨h4, fun z => h5 (lv_lp z)⟩
theorem Stp.upd {Lo : Addr → Prop} {H H1 : Hp} {cs cs1 : List Addr} {st st1 : Sto} {p : Addr} {o : HO} (a : Stp Lo H cs st H1 cs1 st1) (n : H p = none) (w : Wf G.K Lo H cs st) : Stp Lo H cs st (upd H1 p o) cs1 st1 := by
  refine ⟨⟨fun x u e nl => ?_, fun x u e i => ?_⟩, fun x l => ?_, a.pre⟩
  · obtain ⟨h1, h2⟩ := a.kp.keep x u e nl
    exact ⟨by rw [upd_ne (ne_of_none e n)]; exact h1, h2⟩
  · rw [upd_ne (ne_of_none e n)]
    exact a.kp.imm x u e i
  · obtain ⟨xs, e⟩ := w.outT x l
    rw [upd_ne (ne_of_none e n)]
    exact a.out x l
theorem none_back {Lo : Addr → Prop} {H H1 : Hp} {cs cs1 : List Addr} {st st1 : Sto} {p : Addr} (s : Stp Lo H cs st H1 cs1 st1) (w : Wf G.K Lo H cs st) (w1 : Wf G.K Lo H1 cs1 st1) (n : H1 p = none) : H p = none := by
  cases e : H p with
  | none => rfl
  | some o =>
    exfalso
    by_cases l : Lv Lo cs st p
    · rcases l with l | ⟨i, h, _⟩
      · rw [s.out p l, e] at n
        cases n
      · obtain ⟨u, q⟩ := w1.there (pre_get s.pre h)
        rw [q] at n
        cases n
    · rw [(s.kp.keep p o e l).1] at n
      cases n

/-! ### the block -/
def gB (X : Cx) (scope : Scope) (t : Expr) : TG := fun v σ H Q => ∀ s H0 C cl fp, WG (X.blk s H0 scope (compEnvC scope cl C X.env) fp) t v σ H Q
def tB' (X : Cx) (scope : Scope) (fs : List Expr) : TT := fun σ H Q => ∀ s H0 C cl fp, WPT (X.blk s H0 scope (compEnvC scope cl C X.env) fp) fs σ H Q
def eB (X : Cx) (scope : Scope) (e : Expr) : TE := fun σ H Q => ∀ s H0 C cl fp, WE (X.blk s H0 scope (compEnvC scope cl C X.env) fp) e σ H Q
theorem gB_ok {scope : Scope} {t : Expr} (s : Shared) (H : Hp) (C : Addr) (cl : List (Str × Addr)) (fp : List Addr) : PG (X.blk s H scope (compEnvC scope cl C X.env) fp) t (gB X scope t) :=
  ⟨fun pins s' σ H' v u Q I r h => pg_c.run pins s' σ H' v u Q I r (h s H C cl fp)⟩
theorem tB_ok {scope : Scope} {t : List Expr} (s : Shared) (H : Hp) (C : Addr) (cl : List (Str × Addr)) (fp : List Addr) : PTs (X.blk s H scope (compEnvC scope cl C X.env) fp) t (tB' X scope t) :=
  ⟨fun pins s' σ H' Q I h => pts_c.run pins s' σ H' Q I (h s H C cl fp)⟩
theorem eB_ok {scope : Scope} {t : Expr} (s : Shared) (H : Hp) (C : Addr) (cl : List (Str × Addr)) (fp : List Addr) : PE (X.blk s H scope (compEnvC scope cl C X.env) fp) t (eB X scope t) :=
  ⟨fun pins s' σ H' Q I h => pe_c.run pins s' σ H' Q I (h s H C cl fp)⟩
theorem Ctx.blk (c : Ctx P G cal k X C E) {scope : Scope} (hk : scope.kind = .function) (s : Shared) (H : Hp) (C' : Addr) (cl : List (Str × Addr)) (fp : List Addr) :
    Ctx P G cal k (X.blk s H scope (compEnvC scope cl C' X.env) fp) (blkS C scope) E0 where
  K := c.K
  N := c.N
  sc := by
    show relS scope X.env.scope = relS scope C.sc
    rw [c.sc]
  fn := rfl
  kind := hk
  calm := c.calm
  nd := c.nd
  room := c.room
  thr := passL
  glob := c.glob
theorem own_map (C : Sc) (own : List Nat) : (ownP C own).map (·.2) = own := by
  unfold ownP
  rw [List.map_map]
  exact List.map_id'' (fun _ => rfl) own

theorem compL_cons {f : D → Sto → R (Option D × Sto)} {g : Option Nat} {x : D} {r : List D} {st sF : Sto} {ys : List D} (h : compL f g (x :: r) st = .ok (ys, sF)) :
    ∃ y st1 ys2, f x st = .ok (y, st1) ∧ guardOk g st st1 = true ∧ compL f g r st1 = .ok (ys2, sF) ∧ y.toList ++ ys2 = ys := by
  unfold compL at h
  split at h
  · rename_i y st1 e1
    split at h
    · rename_i hg
      split at h
      · rename_i ys2 st2 e2
        cases h
        exact ⟨y, st1, ys2, e1, hg, e2, rfl⟩
      · cases h
    · cases h
  · cases h
theorem gEq_of {g : Option Nat} {s s' : Sto} (h : guardOk g s s' = true) : gEq g s s' := by
  intro i e
  subst e
  unfold guardOk at h
  dsimp only at h
  split at h
  · rename_i xs ys e1 e2
    rw [e1, e2, eq_of_sames _ _ h]
  · cases h
theorem bindOk {α β : Type} {o : R α} {f : α → R β} {z : β} (h : (o >>= f) = .ok z) : ∃ a, o = .ok a ∧ f a = .ok z := by
  cases o with
  | ok a => exact ⟨a, rfl, h⟩
  | exc _ _ => cases h
  | bad => cases h
theorem optOk {α : Type} {o : Option α} {z : α} (h : ofOpt o = .ok z) : o = some z := by
  cases o with
  | none => cases h
  | some a => cases h; rfl

theorem comp_core {src : Sr} {ifs : Tes} {a : Ex} (hS : SS P G cal k src) (hI : SIfs P G cal k ifs) (hE : SE P G cal k a) {tg : Tg} {own : List Nat} {t it elt : Expr} {fs : List Expr} {scope : Scope}
    {Lo : Addr → Prop} {H : Hp} {cs : List Addr} {st : Sto} {env : En} {σ : L2.St} {Q : VK} (c : Ctx P G cal k X C E) (hk : scope.kind = .function) (h1 : ∀ i ∈ slotsT tg, i ∈ own) (h2 : chkT tg (blkS C scope) t = true)
    (h3 : chkS P src C t it = true) (h4 : chkTs' P ifs (blkS C scope) fs = true) (h5 : chkE P a (blkS C scope) elt = true) (w : Wf G.K Lo H cs st) (r : REnv G (Lv Lo cs st) H cs env σ)
    (h : Post G Lo (rN G Lo H) H cs st (evalN cal (.comp tg src ifs a own) env st) Q E) : tLc (WI X t it) (gB X scope t) (tB' X scope fs) (eB X scope elt) own σ H Q := by
  unfold evalN at h
  refine hS c h3 w r (Post.bind (rel := rS G) h fun p s1 J H1 cs1 e0 s w1 hA hp => ?_)
  obtain ⟨A, ok, a1⟩ := hA
  obtain ⟨xs, g⟩ := p
  dsimp only at hp ok
  intro D hD
  have hD0 : H D = none := none_back s w w1 hD
  by_cases hlim : ¬ xs.length ≤ LIM
  · rw [if_neg hlim] at hp
    exact hp.elim
  have hlim : xs.length ≤ LIM := Decidable.not_not.mp hlim
  rw [if_pos hlim] at hp
  generalize hf : compF (evalIfs cal ifs) (evalE cal a) tg (wipeE env own) = f at hp
  cases hc : compL f g xs s1 with
  | bad => rw [hc] at hp; exact hp.elim
  | exc cc ss =>
    exfalso
    clear hp hf
    have : ∀ (l : List PySem.PyData) (s : Sto), compL f g l s ≠ .exc cc ss := by
      intro l s
      cases l with
      | nil => exact fun z => by cases z
      | cons y l =>
        unfold compL
        split
        · split
          · split
            · exact fun z => by cases z
            · exact fun z => by cases z
          · exact fun z => by cases z
        · exact fun z => by cases z
    exact this _ _ hc
  | ok res =>
    obtain ⟨ys, sF⟩ := res
    rw [hc] at hp
    obtain ⟨wD, kD⟩ := w1.enter (vs := []) hD
    have r1 : REnv G (Lv Lo cs1 s1) H1 cs1 env σ := r.kp s.kp s.pre
    refine ⟨fun i m Hc => m = xs.length - i ∧ i ≤ xs.length ∧ ∃ cc sc acc accV ys', Wf G.K (Lp Lo D) Hc cc sc ∧ Stp Lo H1 cs1 s1 Hc cc sc ∧ Hc D = some (.lst accV) ∧ DvAll G.K Hc (Lv (Lp Lo D) cc sc) accV acc ∧
      acc.length ≤ i ∧ compL f g (xs.drop i) sc = .ok (ys', sF) ∧ acc ++ ys' = ys ∧ A (Lv (Lp Lo D) cc sc) Hc cc sc ∧ REnv G (Lv (Lp Lo D) cc sc) Hc cc env σ,
      ⟨xs.length, by simp, Nat.zero_le _, cs1, s1, [], [], ys, wD, Stp.upd .refl hD w1, upd_same, .nil, Nat.zero_le _, by rw [List.drop_zero]; exact hc, rfl, ok.st _ _ _ _ _ _ _ _ a1 kD List.prefix_rfl fun _ _ => rfl, r1.kp kD List.prefix_rfl⟩, ?_⟩
    rintro i m Hc ⟨rfl, hi, cc, sc, acc, accV, ys', wc, sc', eD, dacc, hacc, hrest, hys, ac, rc⟩
    by_cases hlt : ¬ i < xs.length
    · -- the end
      have hi' : i = xs.length := by omega
      subst hi'
      rw [List.drop_length] at hrest
      cases hrest
      rw [List.append_nil] at hys
      subst hys
      exact .inl ⟨ok.stop _ _ _ _ wc ac, hp _ _ _ sc' wc.unlp ⟨D, accV, rfl, hD0, eD, wc, dacc⟩⟩
    · have hlt : i < xs.length := Decidable.not_not.mp hlt
      have hd : xs.drop i = xs[i] :: xs.drop (i + 1) := List.drop_eq_getElem_cons hlt
      rw [hd] at hrest
      obtain ⟨y, st1, ys2, e1, hg, e2, e3⟩ := compL_cons hrest
      refine .inr ⟨ok.go i _ _ _ _ wc ac hlt, _, fun H' q => ⟨xs.length - (i + 1), by omega, q⟩, fun x H' hy => ?_⟩
      obtain ⟨s2, w2, d2⟩ := ok.yld i _ _ _ _ x H' xs[i] wc ac hy (List.getElem?_eq_getElem hlt)
      rw [← hf] at e1
      unfold compF at e1
      split at e1
      · cases e1
      rename_i env1 ha
      -- one turn's end
      have fin : ∀ (acc' : List PySem.PyData) (accV' : List V) (H3 : Hp) (cs3 : List Addr), Stp Lo H1 cs1 s1 H3 cs3 st1 → Wf G.K (Lp Lo D) H3 cs3 st1 → Kp (Lv (Lp Lo D) cc sc) Hc (Lv (Lp Lo D) cs3 st1) H3 → cc <+: cs3 → H3 D = some (.lst accV') →
          DvAll G.K H3 (Lv (Lp Lo D) cs3 st1) accV' acc' → acc'.length ≤ i + 1 → acc' ++ ys2 = ys →
          (fun i m Hc => m = xs.length - i ∧ i ≤ xs.length ∧ ∃ cc sc acc accV ys', Wf G.K (Lp Lo D) Hc cc sc ∧ Stp Lo H1 cs1 s1 Hc cc sc ∧ Hc D = some (.lst accV) ∧ DvAll G.K Hc (Lv (Lp Lo D) cc sc) accV acc ∧
            acc.length ≤ i ∧ compL f g (xs.drop i) sc = .ok (ys', sF) ∧ acc ++ ys' = ys ∧ A (Lv (Lp Lo D) cc sc) Hc cc sc ∧ REnv G (Lv (Lp Lo D) cc sc) Hc cc env σ) (i + 1) (xs.length - (i + 1)) H3 :=
        fun acc' accV' H3 cs3 a1 a2 a3 a4 a5 a6 a7 a8 => ⟨rfl, hlt, cs3, st1, acc', accV', ys2, a2, a1, a5, a6, a7, e2, a8, ok.st _ _ _ _ _ _ _ _ ac a3 a4 (gEq_of hg), rc.kp a3 a4⟩
      intro s' H0 C' cl fp
      have cb : Ctx P G cal k (X.blk s' H0 scope (compEnvC scope cl C' X.env) fp) (blkS C scope) E0 := c.blk hk s' H0 C' cl fp
      refine sTg tg cb h2 ha ((rc.kp s2.kp s2.pre).wipe own) d2 fun σ2 r2 k2 l2 => ?_
      refine ⟨(wipe_same k2 l2 h1).trans wipe_wipe, ?_⟩
      intro s' H0 C' cl fp
      have cb : Ctx P G cal k (X.blk s' H0 scope (compEnvC scope cl C' X.env) fp) (blkS C scope) E0 := c.blk hk s' H0 C' cl fp
      refine hI cb h4 w2 r2 ?_
      split at e1
      · rename_i sb eb
        rw [eb]
        intro b' H3 cs3 s3 w3 hb
        have hb : b' = false := hb
        subst hb
        rw [if_neg Bool.false_ne_true]
        cases e1
        have s23 := s2.trans s3
        refine fin acc accV H3 cs3 (sc'.inner s23 hD) w3 s23.kp s23.pre ((s23.out D (.inr rfl)).trans eD) (DvAll.kp s23.kp dacc) (by omega) ?_
        rw [← hys, ← e3]
        rfl
      · rename_i sb eb
        rw [eb]
        intro b' H3 cs3 s3 w3 hb
        have hb : b' = true := hb
        subst hb
        rw [if_pos rfl]
        split at e1
        · rename_i yd sy ey
          cases e1
          intro s' H0 C' cl fp
          have cb : Ctx P G cal k (X.blk s' H0 scope (compEnvC scope cl C' X.env) fp) (blkS C scope) E0 := c.blk hk s' H0 C' cl fp
          refine hE cb h5 w3 (r2.kp s3.kp s3.pre) ?_
          rw [ey]
          intro yw H4 cs4 s4 w4 dy
          have s234 := (s2.trans s3).trans s4
          have eD4 : H4 D = some (.lst accV) := (s234.out D (.inr rfl)).trans eD
          have dacc4 := DvAll.kp s234.kp dacc
          refine ⟨accV, eD4, ?_, ?_⟩
          · rw [dacc.length, ← lim_eq]
            omega
          · have kp5 : Kp (Lv (Lp Lo D) cs4 st1) H4 (Lv (Lp Lo D) cs4 st1) (L2.upd H4 D (.lst (accV ++ [yw]))) := kp_outer (.inr rfl) eD4
            refine fin (acc ++ [yd]) (accV ++ [yw]) _ cs4 (Stp.upd (sc'.inner s234 hD) hD w1) (w4.outer (.inr rfl) eD4) (s234.kp.trans kp5) s234.pre upd_same (DvAll.kp kp5 (dacc4.append (.cons dy .nil))) ?_ ?_
            · rw [List.length_append]
              simp
              omega
            · rw [← hys, ← e3, List.append_assoc]
              rfl
        · cases e1
      · cases e1
end
end Py

set_option Elab.async false
set_option linter.all false
set_option maxRecDepth 100000
set_option maxHeartbeats 4000000
/-! IG: the interpreter is sound: expressions, the induction -/
namespace Py
open PySem PySem.Spec PyProof.Rows L2

section
variable {P : Prg} {G : GG} {cal : CallF} {k : Nat}

theorem evalEs_len : ∀ {es : Exs} {C : Sc} {xs : List Expr} {env : En} {st s1 : Sto} {ys : List Val}, chkEs P es C xs = true → evalEs cal es env st = .ok (ys, s1) → ys.length = xs.length
  | .nil, C, xs, env, st, s1, ys, h, e => by
    cases xs with
    | cons _ _ => cases h
    | nil =>
      cases e
      rfl
  | .cons a as, C, xs, env, st, s1, ys, h, e => by
    cases xs with
    | nil => cases h
    | cons x xs =>
      have h : (chkE P a C x && chkEs P as C xs) = true := h
      rw [Bool.and_eq_true] at h
      unfold evalEs at e
      obtain ⟨⟨v, sa⟩, e1, e⟩ := bindOk e
      obtain ⟨⟨vs, sb⟩, e2, e⟩ := bindOk e
      cases e
      simp [evalEs_len h.2 e2]
theorem rngD_len : ∀ (n : Nat) (lo : Int), (rngD lo n).length = n
  | 0, _ => rfl
  | n + 1, lo => by simp [rngD, rngD_len n]
theorem rngD_get : ∀ (n : Nat) (lo : Int) (i : Nat) {d : PyData}, (rngD lo n)[i]? = some d → d = .int (lo + i)
  | 0, _, _, _, h => by simp [rngD] at h
  | n + 1, lo, 0, _, h => by
    simp [rngD] at h
    rw [← h]
    simp
  | n + 1, lo, i + 1, d, h => by
    have h : (rngD (lo + 1) n)[i]? = some d := by simpa [rngD] using h
    rw [rngD_get n (lo + 1) i h]
    congr 1
    omega
theorem rngC_len : ∀ (n : Nat) (lo c : Int), (rngC lo c n).length = n
  | 0, _, _ => rfl
  | n + 1, lo, c => by simp [rngC, rngC_len n]
theorem rngC_get : ∀ (n : Nat) (lo c : Int) (i : Nat) {d : PyData}, (rngC lo c n)[i]? = some d → d = .int (lo + (i : Nat) * c)
  | 0, _, _, _, _, h => by simp [rngC] at h
  | n + 1, lo, c, 0, _, h => by
    simp [rngC] at h
    rw [← h]
    simp
  | n + 1, lo, c, i + 1, d, h => by
    have h : (rngC (lo + c) c n)[i]? = some d := by simpa [rngC] using h
    rw [rngC_get n (lo + c) c i h]
    congr 1
    have : ((i + 1 : Nat) : Int) * c = (i : Int) * c + c := by rw [show ((i + 1 : Nat) : Int) = (i : Int) + 1 by omega, Int.add_mul, Int.one_mul]
    rw [this]
    omega
theorem zipD_get : ∀ (xs ys : List PyData) (i : Nat) {d : PyData}, (zipD xs ys)[i]? = some d → ∃ x y, xs[i]? = some x ∧ ys[i]? = some y ∧ d = .tuple [x, y]
  | [], _, _, _, h => by simp [zipD] at h
  | _ :: _, [], _, _, h => by simp [zipD] at h
  | x :: xs, y :: ys, 0, _, h => by
    simp [zipD] at h
    exact ⟨x, y, rfl, rfl, h.symm⟩
  | x :: xs, y :: ys, i + 1, d, h => by
    have h : (zipD xs ys)[i]? = some d := by simpa [zipD] using h
    exact zipD_get xs ys i h
theorem zipD_len : ∀ (xs ys : List PyData), (zipD xs ys).length = min xs.length ys.length
  | [], _ => by simp [zipD]
  | _ :: _, [] => by simp [zipD]
  | x :: xs, y :: ys => by simp [zipD, zipD_len xs ys]
theorem enumD_get : ∀ (xs : List PyData) (n i : Nat) {d : PyData}, (enumD n xs)[i]? = some d → ∃ x, xs[i]? = some x ∧ d = .tuple [.int ((n + i : Nat) : Int), x]
  | [], _, _, _, h => by simp [enumD] at h
  | x :: xs, n, 0, _, h => by
    simp [enumD] at h
    exact ⟨x, rfl, h.symm⟩
  | x :: xs, n, i + 1, d, h => by
    have h : (enumD (n + 1) xs)[i]? = some d := by simpa [enumD] using h
    obtain ⟨y, e1, e2⟩ := enumD_get xs (n + 1) i h
    exact ⟨y, e1, by rw [e2]; congr 3; omega⟩
theorem enumD_len : ∀ (xs : List PyData) (n : Nat), (enumD n xs).length = xs.length
  | [], _ => rfl
  | x :: xs, n => by simp [enumD, enumD_len xs]

/-! ### what is walked -/
theorem SqL.got {K : PySem.W.Frag} {H : Hp} {L : Addr → Prop} {a : Addr} {vs : List V} {xs : List PyData} {i : Nat} (h : SqL K H a vs) (d : DvAll K H L vs xs) (hi : i < xs.length) : (Itl K a).go i H := by
  obtain ⟨y, e, _⟩ := d.get (List.getElem?_eq_getElem hi)
  exact ⟨vs, y, h, e⟩
theorem src_list {a : Addr} {vs : List V} {xs : List PyData} : SrcOk G (Itl G.K a) xs none (fun L H _ _ => LRd G.K H L a vs ∧ DvAll G.K H L vs xs) where
  st := fun _ _ _ _ _ _ _ _ h k _ _ => ⟨h.1.kp k, DvAll.kp k h.2⟩
  go := fun i Lo H cs s w h hi => SqL.got h.1.sq h.2 hi
  stop := fun Lo H cs s w h => ⟨vs, h.1.sq, by rw [h.2.length]; exact Nat.le_refl _⟩
  yld := fun i Lo H cs s x H' d w h y hd => by
    obtain ⟨rfl, y⟩ := y
    obtain ⟨z, e, dz⟩ := h.2.get hd
    have := y vs h.1.sq
    rw [e] at this
    cases this
    exact ⟨.refl, w, dz⟩
theorem src_frz {a : Addr} {vs : List V} {xs : List PyData} : SrcOk G (Itl G.K a) xs none (fun L H _ _ => FzL G.K H a vs ∧ DvAll G.K H L vs xs) where
  st := fun _ _ _ _ _ _ _ _ h k _ _ => ⟨h.1.kp k, DvAll.kp k h.2⟩
  go := fun i Lo H cs s w h hi => SqL.got h.1.sq h.2 hi
  stop := fun Lo H cs s w h => ⟨vs, h.1.sq, by rw [h.2.length]; exact Nat.le_refl _⟩
  yld := fun i Lo H cs s x H' d w h y hd => by
    obtain ⟨rfl, y⟩ := y
    obtain ⟨z, e, dz⟩ := h.2.get hd
    have := y vs h.1.sq
    rw [e] at this
    cases this
    exact ⟨.refl, w, dz⟩
theorem src_tup {a : Addr} {vs : List V} {xs : List PyData} : SrcOk G (Itt G.K a) xs none (fun L H _ _ => SqT G.K H a vs ∧ DvAll G.K H L vs xs) where
  st := fun _ _ _ _ _ _ _ _ h k _ _ => ⟨sqT_kp h.1 k, DvAll.kp k h.2⟩
  go := fun i Lo H cs s w h hi => by
    obtain ⟨y, e, _⟩ := h.2.get (List.getElem?_eq_getElem hi)
    exact ⟨vs, y, h.1, e⟩
  stop := fun Lo H cs s w h => ⟨vs, h.1, by rw [h.2.length]; exact Nat.le_refl _⟩
  yld := fun i Lo H cs s x H' d w h y hd => by
    obtain ⟨rfl, y⟩ := y
    obtain ⟨z, e, dz⟩ := h.2.get hd
    have := y vs h.1
    rw [e] at this
    cases this
    exact ⟨.refl, w, dz⟩
theorem src_cell {a : Addr} {j : Nat} {xs : List PyData} : SrcOk G (Itl G.K a) xs (some j) (fun L H cs s => cs[j]? = some a ∧ cellLst s j = some xs) where
  st := fun _ _ _ _ _ _ _ _ h k p g => ⟨pre_get p h.1, (g j rfl).trans h.2⟩
  go := fun i Lo H cs s w h hi => by
    obtain ⟨b, vs, e1, e2, e3, e4, d⟩ := cell_of (v := .ref a) w ⟨a, rfl, h.1⟩ h.2
    cases e1
    exact SqL.got (.inl (.inl e4)) d hi
  stop := fun Lo H cs s w h => by
    obtain ⟨b, vs, e1, e2, e3, e4, d⟩ := cell_of (v := .ref a) w ⟨a, rfl, h.1⟩ h.2
    cases e1
    exact ⟨vs, .inl (.inl e4), by rw [d.length]; exact Nat.le_refl _⟩
  yld := fun i Lo H cs s x H' d w h y hd => by
    obtain ⟨b, vs, e1, e2, e3, e4, dd⟩ := cell_of (v := .ref a) w ⟨a, rfl, h.1⟩ h.2
    cases e1
    obtain ⟨rfl, y⟩ := y
    obtain ⟨z, e, dz⟩ := dd.get hd
    have := y vs (.inl (.inl e4))
    rw [e] at this
    cases this
    exact ⟨.refl, w, dz⟩
theorem src_rng {lo : Int} {n : Nat} : SrcOk G (Itr lo n) (rngD lo n) none (fun _ _ _ _ => True) where
  st := fun _ _ _ _ _ _ _ _ _ _ _ _ => trivial
  go := fun i Lo H cs s w h hi => by
    rw [rngD_len] at hi
    exact hi
  stop := fun Lo H cs s w h => by
    rw [rngD_len]
    exact Nat.le_refl _
  yld := fun i Lo H cs s x H' d w h y hd => by
    obtain ⟨rfl, rfl⟩ := y
    rw [rngD_get _ _ _ hd]
    exact ⟨.refl, w, .int _⟩
theorem src_rngC {lo c : Int} {n : Nat} : SrcOk G (Itc lo c n) (rngC lo c n) none (fun _ _ _ _ => True) where
  st := fun _ _ _ _ _ _ _ _ _ _ _ _ => trivial
  go := fun i Lo H cs s w h hi => by
    rw [rngC_len] at hi
    exact hi
  stop := fun Lo H cs s w h => by
    rw [rngC_len]
    exact Nat.le_refl _
  yld := fun i Lo H cs s x H' d w h y hd => by
    obtain ⟨rfl, rfl⟩ := y
    rw [rngC_get _ _ _ _ hd]
    exact ⟨.refl, w, .int _⟩
theorem pair_new {Lo : Addr → Prop} {H : Hp} {cs : List Addr} {st : Sto} (w : Wf G.K Lo H cs st) {T : Addr} {x y : V} {a b : PyData} (n : H T = none) (da : Dv G.K H (Lv Lo cs st) x a) (db : Dv G.K H (Lv Lo cs st) y b) :
    Stp Lo H cs st (upd H T (.tup [x, y])) cs st ∧ Wf G.K Lo (upd H T (.tup [x, y])) cs st ∧ Dv G.K (upd H T (.tup [x, y])) (Lv Lo cs st) (.ref T) (.tuple [a, b]) :=
  new_tup w n (.cons da (.cons db .nil))
theorem src_zip {a b : Addr} {vs us : List V} {xs ys : List PyData} : SrcOk G (Itz G.K a b) (zipD xs ys) none (fun L H _ _ => (LRd G.K H L a vs ∧ DvAll G.K H L vs xs) ∧ LRd G.K H L b us ∧ DvAll G.K H L us ys) where
  st := fun _ _ _ _ _ _ _ _ h k _ _ => ⟨⟨h.1.1.kp k, DvAll.kp k h.1.2⟩, h.2.1.kp k, DvAll.kp k h.2.2⟩
  go := fun i Lo H cs s w h hi => by
    obtain ⟨x, y, e1, e2, _⟩ := zipD_get xs ys i (List.getElem?_eq_getElem hi)
    obtain ⟨v, q1, _⟩ := h.1.2.get e1
    obtain ⟨u, q2, _⟩ := h.2.2.get e2
    exact ⟨vs, us, v, u, h.1.1.sq, h.2.1.sq, q1, q2⟩
  stop := fun Lo H cs s w h => by
    refine ⟨vs, us, h.1.1.sq, h.2.1.sq, ?_⟩
    rw [h.1.2.length, h.2.2.length, zipD_len]
    omega
  yld := fun i Lo H cs s x H' d w h y hd => by
    obtain ⟨T, p, q, rfl, hT, rfl, f1, f2⟩ := y
    obtain ⟨x, y, e1, e2, rfl⟩ := zipD_get xs ys i hd
    obtain ⟨v, q1, d1⟩ := h.1.2.get e1
    obtain ⟨u, q2, d2⟩ := h.2.2.get e2
    have z1 := f1 vs h.1.1.sq
    have z2 := f2 us h.2.1.sq
    rw [q1] at z1
    rw [q2] at z2
    cases z1
    cases z2
    exact pair_new w hT d1 d2
theorem src_zipT {a b : Addr} {vs us : List V} {xs ys : List PyData} : SrcOk G (RZ.ItzT G.K a b) (zipD xs ys) none (fun L H _ _ => (SqT G.K H a vs ∧ DvAll G.K H L vs xs) ∧ SqT G.K H b us ∧ DvAll G.K H L us ys) where
  st := fun _ _ _ _ _ _ _ _ h k _ _ => ⟨⟨sqT_kp h.1.1 k, DvAll.kp k h.1.2⟩, sqT_kp h.2.1 k, DvAll.kp k h.2.2⟩
  go := fun i Lo H cs s w h hi => by
    obtain ⟨x, y, e1, e2, _⟩ := zipD_get xs ys i (List.getElem?_eq_getElem hi)
    obtain ⟨v, q1, _⟩ := h.1.2.get e1
    obtain ⟨u, q2, _⟩ := h.2.2.get e2
    exact ⟨vs, us, v, u, h.1.1, h.2.1, q1, q2⟩
  stop := fun Lo H cs s w h => by
    refine ⟨vs, us, h.1.1, h.2.1, ?_⟩
    rw [h.1.2.length, h.2.2.length, zipD_len]
    omega
  yld := fun i Lo H cs s x H' d w h y hd => by
    obtain ⟨T, p, q, rfl, hT, rfl, f1, f2⟩ := y
    obtain ⟨x, y, e1, e2, rfl⟩ := zipD_get xs ys i hd
    obtain ⟨v, q1, d1⟩ := h.1.2.get e1
    obtain ⟨u, q2, d2⟩ := h.2.2.get e2
    have z1 := f1 vs h.1.1
    have z2 := f2 us h.2.1
    rw [q1] at z1
    rw [q2] at z2
    cases z1
    cases z2
    exact pair_new w hT d1 d2
theorem src_enum {a : Addr} {vs : List V} {xs : List PyData} : SrcOk G (Ite G.K a) (enumD 0 xs) none (fun L H _ _ => LRd G.K H L a vs ∧ DvAll G.K H L vs xs) where
  st := fun _ _ _ _ _ _ _ _ h k _ _ => ⟨h.1.kp k, DvAll.kp k h.2⟩
  go := fun i Lo H cs s w h hi => by
    obtain ⟨x, e1, _⟩ := enumD_get xs 0 i (List.getElem?_eq_getElem hi)
    obtain ⟨v, q1, _⟩ := h.2.get e1
    exact ⟨vs, v, h.1.sq, q1⟩
  stop := fun Lo H cs s w h => by
    refine ⟨vs, h.1.sq, ?_⟩
    rw [h.2.length, enumD_len]
    exact Nat.le_refl _
  yld := fun i Lo H cs s x H' d w h y hd => by
    obtain ⟨T, p, rfl, hT, rfl, f1⟩ := y
    obtain ⟨x, e1, rfl⟩ := enumD_get xs 0 i hd
    obtain ⟨v, q1, d1⟩ := h.2.get e1
    have z1 := f1 vs h.1.sq
    rw [q1] at z1
    cases z1
    rw [Nat.zero_add]
    exact pair_new w hT (.int _) d1

/-! ### calls of built-ins -/
section
variable {X : Cx} {x : Str} {p pos : Pos} {e : Expr} {es : List Expr} {t : TA}
theorem pe_bi (b : Bi) (hx : x = Str.ofString (biName b)) (hg : Gl X x) (hm : X.mg x = none) (ha : PA X (e :: es) t) (he : starEach (e :: es) X.env = (false, eval e X.env) :: starEach es X.env)
    (hpl : (backTo pos (starEach es X.env)).any (·.1) = false) : PE X (.Call (.Name x p) (e :: es) [] pos) (tCB (WC X (biVal b)) t) := by
  subst hx
  cases b
  · exact pe_callB (id := "len") call_c hg hm (by decide +kernel) ha (by decide) (by decide) he hpl
  · exact pe_callB (id := "abs") call_c hg hm (by decide +kernel) ha (by decide) (by decide) he hpl
  · exact pe_callTy (T := "int") call_c hg hm (by decide +kernel) ha (by decide) (by decide) he hpl
  · exact pe_callTy (T := "tuple") call_c hg hm (by decide +kernel) ha (by decide) (by decide) he hpl
  · exact pe_callB (id := "min") call_c hg hm (by decide +kernel) ha (by decide) (by decide) he hpl
  · exact pe_callB (id := "max") call_c hg hm (by decide +kernel) ha (by decide) (by decide) he hpl
  · exact pe_callB (id := "min") call_c hg hm (by decide +kernel) ha (by decide) (by decide) he hpl
  · exact pe_callB (id := "max") call_c hg hm (by decide +kernel) ha (by decide) (by decide) he hpl
  · exact pe_callB (id := "all") call_c hg hm (by decide +kernel) ha (by decide) (by decide) he hpl
  · exact pe_callB (id := "any") call_c hg hm (by decide +kernel) ha (by decide) (by decide) he hpl
  · exact pe_callB (id := "sum") call_c hg hm (by decide +kernel) ha (by decide) (by decide) he hpl
theorem bi_in (b : Bi) : Str.ofString (biName b) ∈ bNames := by cases b <;> decide +kernel
theorem ty_in (t : Ty) : Str.ofString (tyName t) ∈ bNames := by cases t <;> decide +kernel
theorem pe_ty (t : Ty) (hx : x = Str.ofString (tyName t)) (hg : Gl X x) (hm : X.mg x = none) : PE X (.Name x p) (tC (.ty (tyName t))) := by
  subst hx
  cases t
  · exact pe_bltn (u := .type "int") hg hm (by decide +kernel) rfl (by decide) (by decide)
  · exact pe_bltn (u := .type "bool") hg hm (by decide +kernel) rfl (by decide) (by decide)
  · exact pe_bltn (u := .type "str") hg hm (by decide +kernel) rfl (by decide) (by decide)
  · exact pe_bltn (u := .type "tuple") hg hm (by decide +kernel) rfl (by decide) (by decide)
  · exact pe_bltn (u := .type "list") hg hm (by decide +kernel) rfl (by decide) (by decide)
end
end
end Py

set_option Elab.async false
set_option linter.all false
set_option maxRecDepth 100000
set_option maxHeartbeats 4000000
/-! IM: min with a default -/
namespace Py
open PySem PySem.Spec PyProof.Rows L2

theorem ints_hold {h : Heap} : ∀ {ns : List Int} {its : List Value}, Vals (ns.map V.int) its → PySem.W.HoldAll h its ns
  | [], _, r => by
    cases r
    exact PySem.W.HoldAll.nil
  | n :: ns, _, r => by
    cases r with
    | cons r1 r2 =>
      obtain ⟨t, rfl⟩ := r1
      exact PySem.W.HoldAll.cons ⟨[], .int n t⟩ (ints_hold r2)
theorem minOf_spec : ∀ (ys : List Int) (y : Int), PySem.W.minOf y ys ∈ y :: ys ∧ ∀ z ∈ y :: ys, PySem.W.minOf y ys ≤ z
  | [], y => ⟨List.mem_cons_self, fun z hz => by
    rw [List.mem_singleton.mp hz]
    exact Int.le_refl _⟩
  | b :: r, y => by
    have e : PySem.W.minOf y (b :: r) = PySem.W.minOf (if decide (b < y) = true then b else y) r := rfl
    by_cases q : b < y
    · rw [if_pos (decide_eq_true q)] at e
      obtain ⟨i1, i2⟩ := minOf_spec r b
      rw [e]
      refine ⟨List.mem_cons_of_mem _ i1, fun z hz => ?_⟩
      rcases List.mem_cons.mp hz with rfl | hz
      · have := i2 b List.mem_cons_self
        omega
      · exact i2 z hz
    · rw [if_neg (by simpa using q)] at e
      obtain ⟨i1, i2⟩ := minOf_spec r y
      rw [e]
      refine ⟨?_, fun z hz => ?_⟩
      · rcases List.mem_cons.mp i1 with h | h
        · rw [h]
          exact List.mem_cons_self
        · exact List.mem_cons_of_mem _ (List.mem_cons_of_mem _ h)
      · rcases List.mem_cons.mp hz with rfl | hz
        · exact i2 z List.mem_cons_self
        · rcases List.mem_cons.mp hz with rfl | hz
          · have := i2 y List.mem_cons_self
            omega
          · exact i2 z (List.mem_cons_of_mem _ hz)
section
variable {X : Cx}
def rMinD (K : PySem.W.Frag) : List V → List V → Hp → VK → Prop := fun vs zs H Q =>
  ∃ (a : Addr) (ns : List Int) (z : V), vs = [V.ref a] ∧ zs = [z] ∧ SqL K H a (ns.map V.int) ∧ (ns = [] → Q z H) ∧ ∀ m, m ∈ ns → (∀ y, y ∈ ns → m ≤ y) → Q (.int m) H
theorem cr_minD (hc : X.calm = true) (hu : X.A.units + 65 < cLine) : CallRK X (.builtin "min") [Str.ofString "default"] (rMinD X.K) := by
  intro pins s σ H vs zs us ws Q I r rz h
  obtain ⟨a, ns, z, rfl, rfl, hs, q0, q⟩ := h
  obtain ⟨its, rv, hl, _⟩ := I.list hs
  obtain rfl := Vals.ref1 r
  obtain ⟨w1, rfl, e1⟩ := vals1 rz
  have hu2 : X.A.units + 1 + PySem.W.Datum.depth Int < cLine := by
    have : PySem.W.Datum.depth Int = 0 := rfl
    omega
  refine PySem.W.min_list_datum_default (xs := ns) (I.ok.hd hc) hl.isList (ints_hold rv) hu2 (fun e h' tk hk => ⟨z, H, I.kept hk, e1, q0 e⟩) fun y ys i v h' tk e hi hH hk => ?_
  subst e
  obtain ⟨m1, m2⟩ := minOf_spec ys y
  obtain ⟨as, hr⟩ := hH
  revert hr
  show Reads h' v (.int (PySem.W.minOf y ys)) as → _
  intro hr
  cases hr with
  | int j t => exact ⟨.int _, H, I.kept hk, ⟨t, rfl⟩, q _ m1 m2⟩
end
end Py

set_option Elab.async false
set_option linter.all false
set_option maxRecDepth 100000
set_option maxHeartbeats 4000000
/-! IN: enumerate over zip of two tuples, at the library's level -/
namespace Py
open PySem PySem.Spec PyProof.Rows L2

/-- a zip, whatever it knows of the tuple that it gave out -/
abbrev IsZipA (h : Heap) (z TI TO : Addr) (f0 : Value) (f : Bool) : Prop :=
  h.get? z = some { cls := .type "zip", dict := none, data := .fields #[f0, .bool f, .bool false, .ref TI, .ref TO], slots := #[] }
def OutF (f0 : Value) : Prop := f0 = .none ∨ ∃ T : Addr, f0 = rawInt T
/-- how a zip over two tuples stands at turn k -/
structure ZT (h : Heap) (z TI TO i1 i2 l1 l2 : Addr) (k : Nat) : Prop where
  zip : ∃ f0 f, OutF f0 ∧ IsZipA h z TI TO f0 f
  its : IsPair h TI (.ref i1) (.ref i2)
  own : ∃ a b, IsPair h TO a b
  one : h.IsTupleIter i1 l1 k
  two : h.IsTupleIter i2 l2 k
section
variable {prog : Program} {w : World} {A : Around} {E : Value → Shared → Prop} {s : Shared} {z TI TO i1 i2 l1 l2 : Addr} {k : Nat} {xs ys : Array Value} {x y : Value}
theorem loadAlive {a : Addr} {Q : Option Obj → Shared → Prop} (h : Q (s.heap.get? a) s) : wpAny (model prog w) A (loadIfAlive a) Q E s := fun _ _ _ => h
/-- whether the tuple given out is free again -/
theorem own_free {f0 : Value} {f : Bool} {Q : Bool → Shared → Prop} (hz : IsZipA s.heap z TI TO f0 f) (ho : OutF f0) (ht : Q true s)
    (h : ∀ g, IsZipA g z TI TO f0 true → Heap.SameBut z s.heap g → Q false { s with heap := g }) : wpAny (model prog w) A (Builtin.SmallTypes.ownedTupleIsFree (.ref z)) Q E s := by
  unfold Builtin.SmallTypes.ownedTupleIsFree
  refine wpAny_bind (wpAny_field hz rfl (x := f0) rfl ?_)
  rcases ho with rfl | ⟨T, rfl⟩
  · exact wpAny_pure ht
  · show wpAny _ _ (loadIfAlive ((T : Int).toNat) >>= _) _ _ s
    refine wpAny_bind (loadAlive ?_)
    cases s.heap.get? (T : Int).toNat with
    | none => exact wpAny_pure ht
    | some o =>
      rw [if_neg (show ¬ (some o).isNone = true from Bool.false_ne_true)]
      refine wpAny_bind (wpAny_field hz rfl (x := .bool f) rfl ?_)
      cases f with
      | true => exact wpAny_pure (h s.heap hz (Heap.SameBut.refl _ _))
      | false => exact wpAny_bind (wpAny_setField_rec hz (by simp) fun g hg hs => wpAny_pure (h g hg hs))
/-- both iterators turn, other cells may have been written between -/
theorem ZT.kept {h g : Heap} (t : ZT h z TI TO i1 i2 l1 l2 k) (c : ∀ b o, h.get? b = some o → g.get? b = some o) : ZT g z TI TO i1 i2 l1 l2 k :=
  let ⟨f0, f, a, b⟩ := t.zip
  let ⟨u, v, e⟩ := t.own
  ⟨⟨f0, f, a, c _ _ b⟩, c _ _ t.its, ⟨u, v, c _ _ e⟩, t.one.at fun o q => c _ o q, t.two.at fun o q => c _ o q⟩

theorem zip_item {Q : Value → Shared → Prop} (D : ZipApart z TI TO i1 i2 l1 l2) (t : ZT s.heap z TI TO i1 i2 l1 l2 k) (p1 : s.heap.IsTuple l1 xs) (p2 : s.heap.IsTuple l2 ys) (hx : xs[k]? = some x) (hy : ys[k]? = some y)
    (hQ : ∀ g, ZT g z TI TO i1 i2 l1 l2 (k + 1) → IsPair g s.heap.objs.size x y → g.objs.size = s.heap.objs.size + 1 → (∀ c o, c ≠ z → c ≠ TO → c ≠ i1 → c ≠ i2 → s.heap.get? c = some o → g.get? c = some o) → Q (.ref s.heap.objs.size) { s with heap := g }) :
    wpAny (model prog w) A (Builtin.«zip.__next__» ⟨[.ref z], []⟩) (fun r s' => ∃ v, r = .done (.ret v) ∧ Q v s') E s := by
  obtain ⟨⟨f0, f, ho, hz⟩, hTI, ⟨a, b, hTO⟩, t1, t2⟩ := t
  have zl := Heap.lt_size hz
  show wpAny _ _ (field (.ref z) 2 >>= _) _ _ s
  refine wpAny_bind (wpAny_field hz rfl (x := .bool false) rfl (show wpAny _ _ (field (.ref z) 3 >>= _) _ _ s from wpAny_bind (wpAny_field hz rfl (x := .ref TI) rfl (wpAny_bind (wpAny_seqItems hTI rfl ?_)))))
  show wpAny _ _ (Builtin.SmallTypes.ownedTupleIsFree (.ref z) >>= _) _ _ s
  refine wpAny_bind (own_free hz ho ?_ fun g1 z1 s1 => ?_)
  · rw [if_pos rfl]
    refine wpAny_bind (wpAny_rule (wpAny_bind (wpAny_field hz rfl (x := .ref TO) rfl (wpAny_bind (wpAny_setField_rec hz (by simp) fun g1 z1 s1 => ?_)))))
    replace z1 : IsZipA g1 z TI TO .ellipsis f := z1
    have n1 : ∀ c o, c ≠ z → s.heap.get? c = some o → g1.get? c = some o := fun c o q e => s1.extBut c o q e
    refine wpAny_bind ?_
    simp only [List.forIn_cons, List.forIn_nil, List.zipIdx_cons, List.zipIdx_nil]
    refine wpAny_bind (wpAny_bind (wpAny_onRaise (show wpAny _ _ (Builtin.SmallTypes.nextOf (.ref i1) >>= _) _ _ _ from wpAny_bind (RZ.nextOf_tuple_item (t1.at fun o q => n1 _ o D.i1z q) (p1.extBut s1.extBut D.l1z) hx fun g2 j1 s2 => wpAny_pure ?_))))
    have o2 : IsPair g2 TO a b := s2.extBut _ _ D.TOi1 (n1 _ _ D.TOz hTO)
    refine wpAny_bind (wpAny_seqItems o2 rfl (wpAny_bind (wpAny_updateSeq_pair o2 fun g3 o3 s3 => wpAny_bind (wpAny_letGo (wpAny_pure ?_)))))
    replace o3 : IsPair g3 TO x b := o3
    have n3 : ∀ c o, c ≠ z → c ≠ i1 → c ≠ TO → s.heap.get? c = some o → g3.get? c = some o := fun c o q1 q2 q3 e => s3.extBut c o q3 (s2.extBut c o q2 (n1 c o q1 e))
    have q2 : g3.IsTuple l2 ys := ((p2.extBut s1.extBut D.l2z).extBut s2.extBut D.l2i1).extBut s3.extBut D.l2TO
    refine wpAny_bind (wpAny_bind (wpAny_onRaise (show wpAny _ _ (Builtin.SmallTypes.nextOf (.ref i2) >>= _) _ _ _ from wpAny_bind (RZ.nextOf_tuple_item (t2.at fun o q => n3 _ o D.i2z D.i12.symm D.TOi2.symm q) q2 hy fun g4 j2 s4 => wpAny_pure ?_))))
    have o4 : IsPair g4 TO x b := s4.extBut _ _ D.TOi2 o3
    refine wpAny_bind (wpAny_seqItems o4 rfl (wpAny_bind (wpAny_updateSeq_pair o4 fun g5 o5 s5 => wpAny_bind (wpAny_letGo (wpAny_pure (wpAny_pure ?_))))))
    replace o5 : IsPair g5 TO x y := o5
    have n5 : ∀ c o, c ≠ z → c ≠ TO → c ≠ i1 → c ≠ i2 → s.heap.get? c = some o → g5.get? c = some o := fun c o q1 q2 q3 q4 e => s5.extBut c o q2 (s4.extBut c o q4 (n3 c o q1 q3 q2 e))
    have z5 : IsZipA g5 z TI TO .ellipsis f := s5.extBut _ _ D.TOz.symm (s4.extBut _ _ D.i2z.symm (s3.extBut _ _ D.TOz.symm (s2.extBut _ _ D.i1z.symm z1)))
    have m5 : g5.objs.size = s.heap.objs.size := s5.1.trans (s4.1.trans (s3.1.trans (s2.1.trans s1.1)))
    refine wpAny_bind (wpAny_seqItems o5 rfl (wpAny_bind (wpAny_newTuple ?_)))
    show wpAny _ _ (Builtin.SmallTypes.ownedTupleHandOut (.ref z) (.ref g5.objs.size) >>= _) _ _ _
    have z6 : IsZipA (g5.push { cls := .type "tuple", data := .seq #[x, y] }) z TI TO .ellipsis f := Heap.get?_push_of_some _ z5
    unfold Builtin.SmallTypes.ownedTupleHandOut
    refine wpAny_bind (wpAny_bind (wpAny_setField_rec z6 (by simp) fun g7 z7 s7 => ?_))
    replace z7 : IsZipA g7 z TI TO (rawInt g5.objs.size) f := z7
    refine wpAny_setField_rec z7 (by simp) fun g8 z8 s8 => wpAny_pure ⟨.ref g5.objs.size, rfl, ?_⟩
    replace z8 : IsZipA g8 z TI TO (rawInt g5.objs.size) false := z8
    have n8 : ∀ c o, c ≠ z → (g5.push { cls := .type "tuple", data := .seq #[x, y] }).get? c = some o → g8.get? c = some o := fun c o q e => s8.extBut c o q (s7.extBut c o q e)
    have w8 : ∀ c o, c ≠ z → g5.get? c = some o → g8.get? c = some o := fun c o q e => n8 c o q (Heap.get?_push_of_some _ e)
    have pr : IsPair g8 g5.objs.size x y := n8 _ _ (by rw [m5]; exact Nat.ne_of_gt zl) (Heap.get?_push_size _ rfl)
    have m8 : g8.objs.size = g5.objs.size + 1 := s8.1.trans (s7.1.trans (Heap.size_push ..))
    rw [m5] at z8 pr m8 ⊢
    refine hQ g8 ⟨⟨_, _, .inr ⟨_, rfl⟩, z8⟩, w8 _ _ D.TIz (n5 _ _ D.TIz D.TITO D.TIi1 D.TIi2 hTI), ⟨x, y, w8 _ _ D.TOz o5⟩, ?_, ?_⟩ pr m8 fun c o q1 q2 q3 q4 e => w8 c o q1 (n5 c o q1 q2 q3 q4 e)
    · exact j1.at fun o e => w8 _ o D.i1z (s5.extBut _ _ D.TOi1.symm (s4.extBut _ _ D.i12 (s3.extBut _ _ D.TOi1.symm e)))
    · exact j2.at fun o e => w8 _ o D.i2z (s5.extBut _ _ D.TOi2.symm e)
  · rw [if_neg Bool.false_ne_true]
    have n1 : ∀ c o, c ≠ z → s.heap.get? c = some o → g1.get? c = some o := fun c o q e => s1.extBut c o q e
    refine wpAny_bind ?_
    rw [← Array.forIn_toList]
    simp only [List.forIn_nil, List.forIn_cons]
    refine wpAny_bind (wpAny_bind (wpAny_holding (show wpAny _ _ (Builtin.SmallTypes.nextOf (.ref i1) >>= _) _ _ _ from wpAny_bind (RZ.nextOf_tuple_item (s := { s with heap := g1 }) (t1.at fun o q => n1 _ o D.i1z q) (p1.extBut s1.extBut D.l1z) hx fun g2 j1 s2 => wpAny_pure (wpAny_pure ?_)))))
    have n2 : ∀ c o, c ≠ z → c ≠ i1 → s.heap.get? c = some o → g2.get? c = some o := fun c o q1 q2 e => s2.extBut c o q2 (n1 c o q1 e)
    refine wpAny_bind (wpAny_bind (wpAny_holding (show wpAny _ _ (Builtin.SmallTypes.nextOf (.ref i2) >>= _) _ _ _ from wpAny_bind (RZ.nextOf_tuple_item (s := { s with heap := g2 }) (t2.at fun o q => n2 _ o D.i2z D.i12.symm q) ((p2.extBut s1.extBut D.l2z).extBut s2.extBut D.l2i1) hy fun g3 j2 s3 => wpAny_pure (wpAny_pure (wpAny_pure ?_))))))
    have n3 : ∀ c o, c ≠ z → c ≠ i1 → c ≠ i2 → s.heap.get? c = some o → g3.get? c = some o := fun c o q1 q2 q3 e => s3.extBut c o q3 (n2 c o q1 q2 e)
    have z3 : IsZipA g3 z TI TO f0 true := s3.extBut _ _ D.i2z.symm (s2.extBut _ _ D.i1z.symm z1)
    have m3 : g3.objs.size = s.heap.objs.size := s3.1.trans (s2.1.trans s1.1)
    show wpAny _ _ (newTuple [x, y] >>= _) _ _ _
    refine wpAny_bind (wpAny_newTuple (wpAny_pure ⟨.ref g3.objs.size, rfl, ?_⟩))
    have up : ∀ c o, g3.get? c = some o → (g3.push { cls := .type "tuple", data := .seq #[x, y] }).get? c = some o := fun c o e => Heap.get?_push_of_some _ e
    have pr : IsPair (g3.push { cls := .type "tuple", data := .seq #[x, y] }) g3.objs.size x y := Heap.get?_push_size _ rfl
    have m4 : (g3.push { cls := .type "tuple", data := .seq #[x, y] }).objs.size = g3.objs.size + 1 := Heap.size_push ..
    rw [m3] at pr m4 ⊢
    exact hQ _ (ZT.kept ⟨⟨f0, true, ho, z3⟩, n3 _ _ D.TIz D.TIi1 D.TIi2 hTI, ⟨a, b, n3 _ _ D.TOz D.TOi1 D.TOi2 hTO⟩, j1.at fun o e => s3.extBut _ _ D.i12 e, j2⟩ up) pr m4 fun c o q1 _ q3 q4 e => up c o (n3 c o q1 q3 q4 e)

theorem zip_end {Q : PySem.Fin → Shared → Prop} (hh : A.handled = none) (D : ZipApart z TI TO i1 i2 l1 l2) (t : ZT s.heap z TI TO i1 i2 l1 l2 k) (p1 : s.heap.IsTuple l1 xs) (p2 : s.heap.IsTuple l2 ys) (he : xs[k]? = none ∨ ys[k]? = none)
    (hE : ∀ g e, (∀ c o, c ≠ z → c ≠ TO → c ≠ i1 → c ≠ i2 → s.heap.get? c = some o → g.get? c = some o) → (∃ o, g.get? e = some o ∧ o.cls = .type "StopIteration") → E (.ref e) { s with heap := g }) :
    wpAny (model prog w) A (Builtin.«zip.__next__» ⟨[.ref z], []⟩) Q E s := by
  obtain ⟨⟨f0, f, ho, hz⟩, hTI, ⟨a, b, hTO⟩, t1, t2⟩ := t
  show wpAny _ _ (field (.ref z) 2 >>= _) _ _ s
  refine wpAny_bind (wpAny_field hz rfl (x := .bool false) rfl (show wpAny _ _ (field (.ref z) 3 >>= _) _ _ s from wpAny_bind (wpAny_field hz rfl (x := .ref TI) rfl (wpAny_bind (wpAny_seqItems hTI rfl ?_)))))
  show wpAny _ _ (Builtin.SmallTypes.ownedTupleIsFree (.ref z) >>= _) _ _ s
  refine wpAny_bind (own_free hz ho ?_ fun g1 z1 s1 => ?_)
  · rw [if_pos rfl]
    refine wpAny_bind (wpAny_rule (wpAny_bind (wpAny_field hz rfl (x := .ref TO) rfl (wpAny_bind (wpAny_setField_rec hz (by simp) fun g1 z1 s1 => ?_)))))
    replace z1 : IsZipA g1 z TI TO .ellipsis f := z1
    have n1 : ∀ c o, c ≠ z → s.heap.get? c = some o → g1.get? c = some o := fun c o q e => s1.extBut c o q e
    have back : ∀ (g : Heap) (e : Addr), IsZipA g z TI TO .ellipsis f → (∀ c o, c ≠ z → c ≠ TO → c ≠ i1 → c ≠ i2 → s.heap.get? c = some o → g.get? c = some o) → (∃ o, g.get? e = some o ∧ o.cls = .type "StopIteration") →
        wpAny (model prog w) A (setField (.ref z) 0 .none) (fun _ s' => E (.ref e) s') E { s with heap := g } := by
      rintro g e hg kg ⟨o, e1, e2⟩
      refine wpAny_setField_rec hg (by simp) fun g' _ s' => hE g' e (fun c o q1 q2 q3 q4 x => s'.extBut c o q1 (kg c o q1 q2 q3 q4 x)) ⟨o, s'.extBut _ _ (fun q => ?_) e1, e2⟩
      rw [q, hg] at e1
      cases e1
      exact absurd e2 (by simp)
    refine wpAny_bind ?_
    simp only [List.forIn_cons, List.forIn_nil, List.zipIdx_cons, List.zipIdx_nil]
    refine wpAny_bind (wpAny_bind (wpAny_onRaise ?_))
    show wpAny _ _ (Builtin.SmallTypes.nextOf (.ref i1) >>= _) _ _ _
    cases hx : xs[k]? with
    | none => exact wpAny_bind (RZ.nextOf_tuple_end hh (t1.at fun o q => n1 _ o D.i1z q) (p1.extBut s1.extBut D.l1z) hx fun g2 e s2 st => back g2 e (s2 _ _ D.i1z.symm z1) (fun c o q1 _ q3 _ x => s2 c o q3 (n1 c o q1 x)) st)
    | some x =>
      have hy : ys[k]? = none := he.resolve_left (by rw [hx]; exact Option.some_ne_none x)
      refine wpAny_bind (RZ.nextOf_tuple_item (t1.at fun o q => n1 _ o D.i1z q) (p1.extBut s1.extBut D.l1z) hx fun g2 j1 s2 => wpAny_pure ?_)
      have o2 : IsPair g2 TO a b := s2.extBut _ _ D.TOi1 (n1 _ _ D.TOz hTO)
      refine wpAny_bind (wpAny_seqItems o2 rfl (wpAny_bind (wpAny_updateSeq_pair o2 fun g3 o3 s3 => wpAny_bind (wpAny_letGo (wpAny_pure ?_)))))
      have n3 : ∀ c o, c ≠ z → c ≠ i1 → c ≠ TO → s.heap.get? c = some o → g3.get? c = some o := fun c o q1 q2 q3 e => s3.extBut c o q3 (s2.extBut c o q2 (n1 c o q1 e))
      have q2 : g3.IsTuple l2 ys := ((p2.extBut s1.extBut D.l2z).extBut s2.extBut D.l2i1).extBut s3.extBut D.l2TO
      have z3 : IsZipA g3 z TI TO .ellipsis f := s3.extBut _ _ D.TOz.symm (s2.extBut _ _ D.i1z.symm z1)
      refine wpAny_bind (wpAny_bind (wpAny_onRaise (show wpAny _ _ (Builtin.SmallTypes.nextOf (.ref i2) >>= _) _ _ _ from wpAny_bind (RZ.nextOf_tuple_end hh (t2.at fun o q => n3 _ o D.i2z D.i12.symm D.TOi2.symm q) q2 hy fun g4 e s4 st => ?_))))
      exact back g4 e (s4 _ _ D.i2z.symm z3) (fun c o r1 r2 r3 r4 x => s4 c o r4 (n3 c o r1 r3 r2 x)) st
  · rw [if_neg Bool.false_ne_true]
    have n1 : ∀ c o, c ≠ z → s.heap.get? c = some o → g1.get? c = some o := fun c o q e => s1.extBut c o q e
    refine wpAny_bind ?_
    rw [← Array.forIn_toList]
    simp only [List.forIn_nil, List.forIn_cons]
    refine wpAny_bind (wpAny_bind (wpAny_holding ?_))
    show wpAny _ _ (Builtin.SmallTypes.nextOf (.ref i1) >>= _) _ _ _
    cases hx : xs[k]? with
    | none => exact wpAny_bind (RZ.nextOf_tuple_end (s := { s with heap := g1 }) hh (t1.at fun o q => n1 _ o D.i1z q) (p1.extBut s1.extBut D.l1z) hx fun g2 e s2 st => hE g2 e (fun c o q1 _ q3 _ x => s2 c o q3 (n1 c o q1 x)) st)
    | some x =>
      have hy : ys[k]? = none := he.resolve_left (by rw [hx]; exact Option.some_ne_none x)
      refine wpAny_bind (RZ.nextOf_tuple_item (s := { s with heap := g1 }) (t1.at fun o q => n1 _ o D.i1z q) (p1.extBut s1.extBut D.l1z) hx fun g2 j1 s2 => wpAny_pure (wpAny_pure ?_))
      have n2 : ∀ c o, c ≠ z → c ≠ i1 → s.heap.get? c = some o → g2.get? c = some o := fun c o q1 q2 e => s2.extBut c o q2 (n1 c o q1 e)
      refine wpAny_bind (wpAny_bind (wpAny_holding (show wpAny _ _ (Builtin.SmallTypes.nextOf (.ref i2) >>= _) _ _ _ from wpAny_bind (RZ.nextOf_tuple_end (s := { s with heap := g2 }) hh (t2.at fun o q => n2 _ o D.i2z D.i12.symm q) ((p2.extBut s1.extBut D.l2z).extBut s2.extBut D.l2i1) hy fun g3 e s3 st => ?_))))
      exact hE g3 e (fun c o q1 _ q3 q4 x => s3 c o q4 (n2 c o q1 q3 x)) st

/-! ### enumerate over it -/
theorem enumZ_item {e : Addr} {i : Nat} {old : Value} {Q : Option Value → Shared → Prop} (D : ZipApart z TI TO i1 i2 l1 l2) (ne : e ∉ [z, TI, TO, i1, i2]) (he : IsEnum s.heap e z i old)
    (t : ZT s.heap z TI TO i1 i2 l1 l2 k) (p1 : s.heap.IsTuple l1 xs) (p2 : s.heap.IsTuple l2 ys) (hx : xs[k]? = some x) (hy : ys[k]? = some y)
    (hQ : ∀ g, IsEnumOut g e z ((i : Int) + 1) (.ref s.heap.objs.size) (s.heap.objs.size + 1) → ZT g z TI TO i1 i2 l1 l2 (k + 1) → IsPair g s.heap.objs.size x y → IsPair g (s.heap.objs.size + 1) (.int i s.toks) (.ref s.heap.objs.size) →
      (∀ c o, c ∉ [e, z, TI, TO, i1, i2] → s.heap.get? c = some o → g.get? c = some o) → Q (some (.ref (s.heap.objs.size + 1))) { s with heap := g, toks := s.toks + 1 }) :
    wpAny (model prog w) A (pyNext (.ref e)) Q E s := by
  simp only [List.mem_cons, List.not_mem_nil, or_false, not_or] at ne
  obtain ⟨ez, eTI, eTO, ei1, ei2⟩ := ne
  have ty : s.TypeIs (.ref e) "enumerate" := ⟨_, he, rfl⟩
  have el := Heap.lt_size he
  unfold pyNext
  refine wpAny_bind (wpAny_attempt (wpAny_callSpecial?_slot (name := Str.ofString "__next__") ty F.slot_enumerate_next (wpAny_call_entry F.slot_enumerate_next ty F.entry_enumerate_next ?_ (F.args_enumerate_next_1 _))))
  obtain ⟨hp, gs, dr, tk, os⟩ := s
  have tz : Shared.TypeIs ⟨hp, gs, dr, tk, os⟩ (.ref z) "zip" := let ⟨_, _, _, b⟩ := t.zip; ⟨_, b, rfl⟩
  show wpAny _ _ (field (.ref e) 2 >>= _) _ _ ⟨hp, gs, dr, tk, os⟩
  refine wpAny_bind (wpAny_field he rfl (x := .ref z) rfl (wpAny_bind ?_))
  unfold Builtin.SmallTypes.nextOf
  refine wpAny_bind (wpAny_callSpecial?_slot (name := Str.ofString "__next__") tz F.slot_zip_next (wpAny_call_entry F.slot_zip_next tz F.entry_zip_next (zip_item D t p1 p2 hx hy fun g1 t1 pr m1 n1 => wpAny_pure ?_) (F.args_zip_next_1 _)))
  have e1 : IsEnum g1 e z i old := n1 _ _ ez eTO ei1 ei2 he
  show wpAny _ _ (field (.ref e) 3 >>= _) _ _ ⟨g1, gs, dr, tk, os⟩
  refine wpAny_bind (wpAny_field e1 rfl (x := rawInt i) rfl (show wpAny _ _ (field (.ref e) 4 >>= _) _ _ ⟨g1, gs, dr, tk, os⟩ from wpAny_bind (wpAny_field e1 rfl (x := .none) rfl ?_)))
  show wpAny _ _ (mkInt i >>= _) _ _ ⟨g1, gs, dr, tk, os⟩
  refine wpAny_bind (wpAny_mkInt (show wpAny _ _ (setField (.ref e) 3 (rawInt ((i : Int) + 1)) >>= _) _ _ ⟨g1, gs, dr, tk + 1, os⟩ from wpAny_bind (wpAny_setField_rec e1 (by simp) fun g2 e2 s2 => ?_)))
  replace e2 : IsEnum g2 e z ((i : Int) + 1) old := e2
  show wpAny _ _ (setField (.ref e) 4 .none >>= _) _ _ ⟨g2, gs, dr, tk + 1, os⟩
  refine wpAny_bind (wpAny_setField_rec e2 (by simp) fun g3 e3 s3 => ?_)
  replace e3 : IsEnum g3 e z ((i : Int) + 1) old := e3
  have n3 : ∀ c o, c ≠ e → g1.get? c = some o → g3.get? c = some o := fun c o q x => s3.extBut c o q (s2.extBut c o q x)
  have m3 : g3.objs.size = hp.objs.size + 1 := s3.1.trans (s2.1.trans m1)
  show wpAny _ _ (newTuple [.int i tk, .ref hp.objs.size] >>= _) _ _ ⟨g3, gs, dr, tk + 1, os⟩
  refine wpAny_bind (wpAny_newTuple ?_)
  obtain ⟨g4, hg4⟩ : ∃ g4, g4 = g3.push { cls := .type "tuple", data := .seq #[.int i tk, .ref hp.objs.size] } := ⟨_, rfl⟩
  have n4 : ∀ c o, g3.get? c = some o → g4.get? c = some o := fun c o x => by rw [hg4]; exact Heap.get?_push_of_some _ x
  have e4 := n4 _ _ e3
  have pr4 : IsPair g4 (hp.objs.size + 1) (.int i tk) (.ref hp.objs.size) := by rw [hg4, ← m3]; exact Heap.get?_push_size _ rfl
  rw [← hg4, m3]
  show wpAny _ _ (Builtin.SmallTypes.ownedTupleIsFree (.ref e) >>= _) _ _ ⟨g4, gs, dr, tk + 1, os⟩
  unfold Builtin.SmallTypes.ownedTupleIsFree
  refine wpAny_bind (wpAny_bind (wpAny_field e4 rfl (x := .none) rfl (wpAny_pure ?_)))
  rw [if_pos rfl]
  refine wpAny_bind (wpAny_rule (wpAny_bind (wpAny_field e4 rfl (x := old) rfl (wpAny_bind (wpAny_setField_rec e4 (by simp) fun g5 e5 s5 => ?_)))))
  replace e5 : IsEnum g5 e z ((i : Int) + 1) (.ref hp.objs.size) := e5
  show wpAny _ _ (Builtin.SmallTypes.ownedTupleHandOut (.ref e) (.ref (hp.objs.size + 1)) >>= _) _ _ ⟨g5, gs, dr, tk + 1, os⟩
  unfold Builtin.SmallTypes.ownedTupleHandOut
  refine wpAny_bind (wpAny_bind (wpAny_setField_rec e5 (by simp) fun g6 e6 s6 => ?_))
  replace e6 : IsEnumOut g6 e z ((i : Int) + 1) (.ref hp.objs.size) (hp.objs.size + 1) := e6
  refine wpAny_setField_rec e6 (by simp) fun g7 e7 s7 => wpAny_bind (wpAny_letGo (wpAny_pure ⟨.ref (hp.objs.size + 1), rfl, wpAny_pure ?_⟩))
  have n7 : ∀ c o, c ≠ e → g4.get? c = some o → g7.get? c = some o := fun c o q x => s7.extBut c o q (s6.extBut c o q (s5.extBut c o q x))
  have up : ∀ c o, c ≠ e → g1.get? c = some o → g7.get? c = some o := fun c o q x => n7 c o q (n4 c o (n3 c o q x))
  have el : e < hp.objs.size := el
  obtain ⟨⟨f0, f, ho, hz⟩, hTI, ⟨a, b, hTO⟩, j1, j2⟩ := t1
  refine hQ g7 e7 ⟨⟨f0, f, ho, up _ _ (Ne.symm ez) hz⟩, up _ _ (Ne.symm eTI) hTI, ⟨a, b, up _ _ (Ne.symm eTO) hTO⟩, j1.at fun o q => up _ o (Ne.symm ei1) q, j2.at fun o q => up _ o (Ne.symm ei2) q⟩ (up _ _ (Nat.ne_of_gt el) pr) (n7 _ _ (Nat.ne_of_gt (Nat.lt_succ_of_lt el)) pr4) fun c o nc q => ?_
  simp only [List.mem_cons, List.not_mem_nil, or_false, not_or] at nc
  exact up c o nc.1 (n1 c o nc.2.1 nc.2.2.2.1 nc.2.2.2.2.1 nc.2.2.2.2.2 q)
theorem enumZ_end {e : Addr} {i : Nat} {old : Value} {Q : Option Value → Shared → Prop} (hh : A.handled = none) (D : ZipApart z TI TO i1 i2 l1 l2) (he : IsEnum s.heap e z i old)
    (t : ZT s.heap z TI TO i1 i2 l1 l2 k) (p1 : s.heap.IsTuple l1 xs) (p2 : s.heap.IsTuple l2 ys) (hend : xs[k]? = none ∨ ys[k]? = none)
    (hQ : ∀ g, (∀ c o, c ≠ z → c ≠ TO → c ≠ i1 → c ≠ i2 → s.heap.get? c = some o → g.get? c = some o) → Q none { s with heap := g }) :
    wpAny (model prog w) A (pyNext (.ref e)) Q E s := by
  have ty : s.TypeIs (.ref e) "enumerate" := ⟨_, he, rfl⟩
  have tz : s.TypeIs (.ref z) "zip" := let ⟨_, _, _, b⟩ := t.zip; ⟨_, b, rfl⟩
  unfold pyNext
  refine wpAny_bind (wpAny_attempt (wpAny_callSpecial?_slot (name := Str.ofString "__next__") ty F.slot_enumerate_next (wpAny_call_entry F.slot_enumerate_next ty F.entry_enumerate_next ?_ (F.args_enumerate_next_1 _))))
  show wpAny _ _ (field (.ref e) 2 >>= _) _ _ s
  refine wpAny_bind (wpAny_field he rfl (x := .ref z) rfl (wpAny_bind ?_))
  unfold Builtin.SmallTypes.nextOf
  refine wpAny_bind (wpAny_callSpecial?_slot (name := Str.ofString "__next__") tz F.slot_zip_next (wpAny_call_entry F.slot_zip_next tz F.entry_zip_next (zip_end (A := A.in1.in1) hh D t p1 p2 hend fun g x hk ⟨o, ho, hc⟩ => ?_) (F.args_zip_next_1 _)))
  exact wpAny_bind (wpAny_isInstance (T := "StopIteration") (b := true) ⟨o, ho, hc⟩ isSubtype_stop (wpAny_pure (hQ _ hk)))
end
end Py

set_option Elab.async false
set_option linter.all false
set_option maxRecDepth 100000
set_option maxHeartbeats 4000000
/-! IQ: loops over enumerate(zip(t, u)) -/
namespace Py
open PySem PySem.Spec PyProof.Rows L2
open AutoSeq1 (wpAny_loadPart')

/-- enumerate of a zip that has given nothing yet -/
theorem meets_enumZ (z TI TO : Addr) :
    Meets (Builtin.«enumerate.__new__» ⟨[.type "enumerate", .ref z], []⟩) (fun _ R s => IsZip s.heap z TI TO .none ∧
      R (.ok (.ret (.ref s.heap.objs.size))) { s with heap := s.heap.push { cls := .type "enumerate", data := .fields #[.none, .bool false, .ref z, rawInt 0, .none, .none] } }) :=
  .of_wp fun prog w A R ⟨hp, gs, dr, tk, os⟩ ⟨hz, goal⟩ => by
    have sub := sub_enumerate
    have hz : IsZip hp z TI TO .none := hz
    wp_walk using wpAny_loadPart' hz
    refine wpAny_stack_any fun st => wpAny_pure ?_
    split
    · rename_i c _ _ _ _ _
      cases (c == Value.type "enumerate") <;> (wp_walk using wpAny_loadPart' hz, wpAny_pyIter_zip hz; exact ⟨_, rfl, goal⟩)
    · wp_walk using wpAny_loadPart' hz, wpAny_pyIter_zip hz
      exact ⟨_, rfl, goal⟩
section
variable {prog : Program} {w : World} {A : Around} {E : Value → Shared → Prop} {s : Shared}
theorem call_enumZ {z TI TO : Addr} {Q : Value → Shared → Prop} (hz : IsZip s.heap z TI TO .none)
    (h : ∀ g, IsEnum g s.heap.objs.size z 0 .none → (∀ b o, s.heap.get? b = some o → g.get? b = some o) → Q (.ref s.heap.objs.size) { s with heap := g }) :
    wpAny (model prog w) A (call (.type "enumerate") [.ref z]) Q E s := by
  have he : IsEnum (s.heap.push { cls := .type "enumerate", data := .fields #[.none, .bool false, .ref z, rawInt 0, .none, .none] }) s.heap.objs.size z 0 .none := Heap.get?_push_size _ rfl
  exact callType_new F.called_enumerate (by decide) (F.typeCall_enumerate_1 _) (F.newCall_enumerate_1 _) (fun obj => F.args_object_init_2 obj _) F.entry_enumerate_new (meets_enumZ z TI TO)
    ⟨hz, ⟨_, he, rfl⟩, h _ he fun b o x => Heap.get?_push_of_some _ x⟩
end

/-- the tuples at a and b side by side and counted, each turn in two new tuples -/
def Itez (K : PySem.W.Frag) (a b : Addr) : It where
  go i H := ∃ (xs ys : List V) (x y : V), SqT K H a xs ∧ SqT K H b ys ∧ xs[i]? = some x ∧ ys[i]? = some y
  yld i H v H' := ∃ T0 T x y, v = .ref T ∧ H T0 = none ∧ H T = none ∧ T ≠ T0 ∧ H' = upd (upd H T0 (.tup [x, y])) T (.tup [.int (i : Nat), .ref T0]) ∧ (∀ xs, SqT K H a xs → xs[i]? = some x) ∧ ∀ ys, SqT K H b ys → ys[i]? = some y
  stop i H := ∃ xs ys : List V, SqT K H a xs ∧ SqT K H b ys ∧ (xs.length ≤ i ∨ ys.length ≤ i)
def TnZ (e z TI TO i1 i2 a b : Addr) (i : Nat) (h : Heap) : Prop := (∃ old, IsEnum h e z ((i : Nat) : Int) old) ∧ ZT h z TI TO i1 i2 a b i
theorem turn_enumZ {P : Program} {w : World} {K : PySem.W.Frag} {elts : List Expr} {kk : Nat} {tpos : Pos} {a b e z TI TO i1 i2 : Addr} (D : ZipApart z TI TO i1 i2 a b) (ne : e ∉ [z, TI, TO, i1, i2]) :
    Turn P w K (.Tuple elts kk tpos) (Itez K a b) [e, z, TI, TO, i1, i2] e (TnZ e z TI TO i1 i2 a b) where
  mem := List.mem_cons_self
  obj := fun i h ⟨⟨old, he⟩, t⟩ c hc => by
    obtain ⟨⟨f0, f, _, hz⟩, hTI, ⟨x, y, hTO⟩, ⟨o1, q1, _, d1⟩, ⟨o2, q2, _, d2⟩⟩ := t
    simp only [List.mem_cons, List.not_mem_nil, or_false] at hc
    rcases hc with rfl | rfl | rfl | rfl | rfl | rfl
    · exact ⟨_, he, fun v => nofun⟩
    · exact ⟨_, hz, fun v => nofun⟩
    · exact ⟨_, hTI, fun v => nofun⟩
    · exact ⟨_, hTO, fun v => nofun⟩
    · exact ⟨o1, q1, fun v => by rw [d1]; exact nofun⟩
    · exact ⟨o2, q2, fun v => by rw [d2]; exact nofun⟩
  keep := fun i h h' ⟨⟨old, he⟩, t⟩ k => by
    obtain ⟨⟨f0, f, hf, hz⟩, hTI, ⟨x, y, hTO⟩, h1, h2⟩ := t
    refine ⟨⟨old, k _ ?_ _ he⟩, ⟨f0, f, hf, k _ ?_ _ hz⟩, k _ ?_ _ hTI, ⟨x, y, k _ ?_ _ hTO⟩, h1.at fun o => k _ ?_ o, h2.at fun o => k _ ?_ o⟩ <;> simp
  item := by
    rintro X rfl rfl rfl hc i pins s σ H E I hf ⟨⟨old, he⟩, t⟩ ⟨xs, ys, x, y, hqx, hqy, hx, hy⟩
    obtain ⟨its, rv, p1, _⟩ := I.tuple hqx
    obtain ⟨its2, rv2, p2, _⟩ := I.tuple hqy
    obtain ⟨u, hu, ru⟩ := rv.get hx
    obtain ⟨u2, hu2, ru2⟩ := rv2.get hy
    have lts : ∀ c ∈ [e, z, TI, TO, i1, i2], c < s.heap.objs.size := fun c hcm => by
      obtain ⟨⟨f0, f, _, hz⟩, hTI, ⟨x, y, hTO⟩, ⟨o1, q1, _⟩, ⟨o2, q2, _⟩⟩ := t
      simp only [List.mem_cons, List.not_mem_nil, or_false] at hcm
      rcases hcm with rfl | rfl | rfl | rfl | rfl | rfl <;> first | exact Heap.lt_size he | exact Heap.lt_size hz | exact Heap.lt_size hTI | exact Heap.lt_size hTO | exact Heap.lt_size q1 | exact Heap.lt_size q2
    have el := lts e List.mem_cons_self
    refine enumZ_item D ne he t p1 p2 (x := u) (y := u2) (by simpa using hu) (by simpa using hu2) fun g eo t1 pr pr2 nk => ?_
    refine ⟨_, rfl, wpAny_letOwnedTupleGo_enum (s := { s with heap := g, toks := s.toks + 1 }) eo fun g2 e2 sb => ?_⟩
    have same : ∀ c, c ≠ e → g2.get? c = g.get? c := sb.2
    have up : ∀ c o, c ≠ e → g.get? c = some o → g2.get? c = some o := fun c o q x => (same c q).trans x
    have T0n : H s.heap.objs.size = none := I.hok.fresh (Nat.le_refl _)
    have T1n : H (s.heap.objs.size + 1) = none := I.hok.fresh (Nat.le_succ _)
    have I0 : Inv X pins σ (upd H s.heap.objs.size (.tup [x, y])) { s with heap := s.heap.push { cls := .type "tuple", data := .seq #[u, u2] } } :=
      I.laid (t' := s.toks) (fun c o q => Heap.get?_push_of_some _ q) (Nat.le_refl _) ⟨show 2 ≤ sizeLine by decide, [u, u2], .cons ru (.cons ru2 .nil), _, Heap.get?_push_size _ rfl, rfl, _, rfl⟩
    have I1 : Inv X pins σ (upd (upd H s.heap.objs.size (.tup [x, y])) (s.heap.objs.size + 1) (.tup [.int (i : Nat), .ref s.heap.objs.size])) { s with heap := g2, toks := s.toks + 1 } := by
      refine I0.turnedNew (t' := s.toks + 1) (ch := [e, z, TI, TO, i1, i2]) (fun c o hb q => ?_) (fun c hcm => ?_) (Nat.le_of_eq (Heap.size_push ..)) ⟨show 2 ≤ sizeLine by decide, [.int i s.toks, .ref s.heap.objs.size], .cons ⟨_, rfl⟩ (.cons rfl .nil), _, up _ _ (Nat.ne_of_gt (Nat.lt_succ_of_lt el)) pr2, rfl, _, rfl⟩
      · rcases Heap.get?_push_cases q with ⟨rfl, rfl⟩ | q
        · exact up _ _ (Nat.ne_of_gt el) pr
        · exact up _ _ (fun z => hb (z ▸ List.mem_cons_self)) (nk _ _ hb q)
      · obtain ⟨f1, fr⟩ := hf c hcm
        exact ⟨(upd_ne (Nat.ne_of_lt (lts c hcm))).trans f1, fr⟩
    refine ⟨.ref (s.heap.objs.size + 1), _, I1, rfl, ⟨_, _, x, y, rfl, T0n, T1n, Nat.succ_ne_self _, rfl, fun l hl => I.tuple_inj hl hqx ▸ hx, fun l hl => I.tuple_inj hl hqy ▸ hy⟩, ⟨⟨_, show IsEnum g2 e z (((i + 1 : Nat) : Nat) : Int) (.ref s.heap.objs.size) from e2⟩, ?_⟩, fun c hcm => ?_⟩
    · obtain ⟨⟨f0, f, ho, hz⟩, hTI, ⟨p, q, hTO⟩, j1, j2⟩ := t1
      simp only [List.mem_cons, List.not_mem_nil, or_false, not_or] at ne
      exact ⟨⟨f0, f, ho, up _ _ (Ne.symm ne.1) hz⟩, up _ _ (Ne.symm ne.2.1) hTI, ⟨p, q, up _ _ (Ne.symm ne.2.2.1) hTO⟩, j1.at fun o => up _ o (Ne.symm ne.2.2.2.1), j2.at fun o => up _ o (Ne.symm ne.2.2.2.2)⟩
    · have lt := lts c hcm
      exact (upd_ne (Nat.ne_of_lt (Nat.lt_succ_of_lt lt))).trans ((upd_ne (Nat.ne_of_lt lt)).trans (hf c hcm).1)
  done := by
    rintro X rfl rfl rfl hc i pins s σ H E I hf ⟨⟨old, he⟩, t⟩ ⟨xs, ys, hqx, hqy, hend⟩
    obtain ⟨its, rv, p1, _⟩ := I.tuple hqx
    obtain ⟨its2, rv2, p2, _⟩ := I.tuple hqy
    have m1 := rv.length
    have m2 := rv2.length
    refine enumZ_end (I.ok.hd hc) D he t p1 p2 (hend.imp (fun q => ?_) fun q => ?_) fun g hk => ⟨rfl, I.turnedL (t' := s.toks) (ch := [e, z, TI, TO, i1, i2]) (fun c o hb q => ?_) hf⟩
    · rw [List.getElem?_toArray, List.getElem?_eq_none_iff]
      omega
    · rw [List.getElem?_toArray, List.getElem?_eq_none_iff]
      omega
    · simp only [List.mem_cons, List.not_mem_nil, or_false, not_or] at hb
      exact hk c o hb.2.1 hb.2.2.2.1 hb.2.2.2.2.1 hb.2.2.2.2.2 q
  self := fun A i s Q E ⟨⟨_, he⟩, _⟩ h => wpAny_pyIter_enum he h

def iEnumZ (K : PySem.W.Frag) (ta : TA) : TI := fun σ H R => ta σ H fun vs H1 => ∃ a b xs ys, vs = [.ref a, .ref b] ∧ SqT K H1 a xs ∧ SqT K H1 b ys ∧ R (Itez K a b) H1
theorem vals_ref2 {a b : Addr} {us : List Value} (r : Vals [V.ref a, V.ref b] us) : us = [.ref a, .ref b] := by
  cases r with
  | cons r1 r =>
    cases r with
    | cons r2 r =>
      cases r
      cases r1
      cases r2
      rfl
theorem pi_enumZ {X : Cx} {e e2 : Expr} {ta : TA} {p pos p2 pos2 tpos : Pos} {elts : List Expr} {kk : Nat} (hg : Gl X "enumerate") (hm : X.mg "enumerate" = none) (hgz : Gl X "zip") (hmz : X.mg "zip" = none) (ha : PA X [e, e2] ta)
    (hs : starEach [e, e2] X.env = (false, eval e X.env) :: starEach [e2] X.env := by rfl) (hpl : (backTo pos2 (starEach [e2] X.env)).any (·.1) = false := by rfl) :
    PI X (.Tuple elts kk tpos) (.Call (.Name "enumerate" p) [.Call (.Name "zip" p2) [e, e2] [] pos2] [] pos) (iEnumZ X.K ta) := by
  refine ⟨fun pins s σ H R I h => Call_ (ld_blt I hg hm boot_enumerate (PyProof.Rows.callWith_type1 ?_ rfl rfl))⟩
  show wpAny _ _ (spliced ((false, eval (.Call (.Name "zip" p2) [e, e2] [] pos2) X.env) :: backTo pos (starEach [] X.env))) _ _ s
  refine Calls.spliced_cons (Call_ (ld_blt I hgz hmz PyProof.Rows.boot_zip (PyProof.Rows.callWith_type1 (thn (ha.run pos2 pins s σ H _ I h) fun us s1 ⟨vs, H1, I1, r1, a, b, xs, ys, ex, hqx, hqy, q⟩ => ?_) hs hpl)))
  subst ex
  obtain rfl := vals_ref2 r1
  obtain ⟨its, rv, t1, _⟩ := I1.tuple hqx
  obtain ⟨its2, rv2, t2, _⟩ := I1.tuple hqy
  obtain ⟨o1, ho1, _⟩ := id t1
  obtain ⟨o2, ho2, _⟩ := id t2
  refine RZ.call_zipT (xs := its.toArray) (ys := its2.toArray) t1 t2 fun g hz hTI hTO h1 h2 sz hk => Calls.spliced_nil (call_enumZ hz fun g2 he hk2 => wpAny_pyIter_enum he ?_)
  rw [show ({ s1 with heap := g } : Shared).heap.objs.size = s1.heap.objs.size + 5 from sz] at he ⊢
  refine ⟨s1.heap.objs.size + 5, [s1.heap.objs.size + 5, s1.heap.objs.size + 4, s1.heap.objs.size + 2, s1.heap.objs.size + 3, s1.heap.objs.size, s1.heap.objs.size + 1], _, _, H1, rfl, I1.kept (t' := s1.toks) fun c o x => hk2 _ _ (hk _ _ x),
    turn_enumZ (PySem.W.ktu_apart s1.heap.objs.size a b (Heap.lt_size ho1) (Heap.lt_size ho2)) ?_, ⟨⟨_, he⟩, ZT.kept ⟨⟨_, _, .inl rfl, hz⟩, hTI, ⟨_, _, hTO⟩, h1, h2⟩ hk2⟩, fun c hcm => ?_, q⟩
  · have na : ∀ n i j : Nat, i ≠ j → n + i ≠ n + j := fun n i j h q => h (Nat.add_left_cancel q)
    simp only [List.mem_cons, List.not_mem_nil, or_false, not_or]
    exact ⟨na _ 5 4 (by decide), na _ 5 2 (by decide), na _ 5 3 (by decide), na _ 5 0 (by decide), na _ 5 1 (by decide)⟩
  · have le : s1.heap.objs.size ≤ c := by
      simp only [List.mem_cons, List.not_mem_nil, or_false] at hcm
      rcases hcm with rfl | rfl | rfl | rfl | rfl | rfl <;> first | exact Nat.le_add_right _ _ | exact Nat.le_refl _
    exact I1.fpOk le (I1.hok.fresh le)

section
variable {G : GG}
theorem src_enumZ {a b : Addr} {vs us : List V} {xs ys : List PyData} : SrcOk G (Itez G.K a b) (enumD 0 (zipD xs ys)) none (fun L H _ _ => (SqT G.K H a vs ∧ DvAll G.K H L vs xs) ∧ SqT G.K H b us ∧ DvAll G.K H L us ys) where
  st := fun _ _ _ _ _ _ _ _ h k _ _ => ⟨⟨sqT_kp h.1.1 k, DvAll.kp k h.1.2⟩, sqT_kp h.2.1 k, DvAll.kp k h.2.2⟩
  go := fun i Lo H cs s w h hi => by
    obtain ⟨d, e0, _⟩ := enumD_get (zipD xs ys) 0 i (List.getElem?_eq_getElem hi)
    obtain ⟨x, y, e1, e2, _⟩ := zipD_get xs ys i e0
    obtain ⟨v, q1, _⟩ := h.1.2.get e1
    obtain ⟨u, q2, _⟩ := h.2.2.get e2
    exact ⟨vs, us, v, u, h.1.1, h.2.1, q1, q2⟩
  stop := fun Lo H cs s w h => by
    refine ⟨vs, us, h.1.1, h.2.1, ?_⟩
    rw [h.1.2.length, h.2.2.length, enumD_len, zipD_len]
    omega
  yld := fun i Lo H cs s x H' d w h y hd => by
    obtain ⟨T0, T, p, q, rfl, hT0, hT, hne, rfl, f1, f2⟩ := y
    obtain ⟨d', e0, rfl⟩ := enumD_get (zipD xs ys) 0 i hd
    obtain ⟨x, y, e1, e2, rfl⟩ := zipD_get xs ys i e0
    obtain ⟨v, q1, d1⟩ := h.1.2.get e1
    obtain ⟨u, q2, d2⟩ := h.2.2.get e2
    have z1 := f1 vs h.1.1
    have z2 := f2 us h.2.1
    rw [q1] at z1
    rw [q2] at z2
    cases z1
    cases z2
    obtain ⟨s1, w1, dv⟩ := pair_new w hT0 d1 d2
    rw [Nat.zero_add]
    obtain ⟨s2, w2, dv2⟩ := pair_new w1 (T := T) (x := .int (i : Nat)) (y := .ref T0) (a := .int (i : Nat)) (by rw [upd_ne hne]; exact hT) (.int _) dv
    exact ⟨s1.trans s2, w2, dv2⟩
end
end Py

set_option Elab.async false
set_option linter.all false
set_option maxRecDepth 100000
set_option maxHeartbeats 8000000
/-! IH: the interpreter is sound: expressions, the induction itself -/
namespace Py
open PySem PySem.Spec PyProof.Rows L2

theorem isT_plain {e : Expr} (h : plainT e = true) (env : Env) (whole : Sem Value) : isTrue e env whole = (do let v ← whole; standAt e.pos; holding [v] (truthy v)) := by
  cases e <;> first | rfl | cases h
theorem plainIx {e : Expr} (h : notSl e = true) : PlainIx e := by
  intro o i
  cases e <;> first | rfl | cases h
theorem fold_set {e : Expr} (h : notSet e = true) (env : Env) (x : Value) : foldedSetIterable e env x = pure x := by
  cases e <;> first | rfl | cases h

section
variable {P : Prg} {G : GG} {cal : CallF} {k : Nat}
theorem dv_int {K : PySem.W.Frag} {H : Hp} {L : Addr → Prop} {v : V} {i : Int} (h : Dv K H L v (.int i)) : v = .int i := by cases h; rfl
theorem dv_bl {K : PySem.W.Frag} {H : Hp} {L : Addr → Prop} {v : V} {i : Bool} (h : Dv K H L v (.bool i)) : v = .bl i := by cases h; rfl
theorem boolOf_some {x : Val} {b : Bool} (h : boolOf x = some b) : x = .d (.bool b) := by
  unfold boolOf at h
  split at h
  · cases h; rfl
  · cases h
theorem plain_some {x : Val} {b : PyData} (h : plain x = some b) : x = .d b := by
  unfold plain at h
  split at h
  · cases h; rfl
  · cases h
theorem isNone_iff {L : Addr → Prop} {H : Hp} {cs : List Addr} {x : Val} {v : V} (r : RVal G L H cs x v) : decide (v = .non) = isNone x := by
  cases x with
  | d x => cases r <;> rfl
  | cell i => obtain ⟨a, rfl, _⟩ := r; rfl
  | fn i => cases r; rfl
  | fz xs => obtain ⟨a, vs, rfl, _⟩ := r; rfl

theorem assocR {Lo : Addr → Prop} {α β γ δ : Type} {rel : Rel α β} {H : Hp} {cs : List Addr} {st : Sto} {o : R γ} {f : γ → R δ} {g : δ → R (α × Sto)} {Q : β → Hp → Prop} {E : XK} (h : Post G Lo rel H cs st ((o >>= f) >>= g) Q E) :
    Post G Lo rel H cs st (o >>= fun x => f x >>= g) Q E := by
  cases o <;> exact h
mutual
theorem sE : ∀ a : Ex, SE P G cal k a
  | .v i => by
    intro c h w r hp
    rename_i X C E e Lo H cs st env σ Q
    unfold chkE at h
    split at h
    · unfold evalE at hp
      split at hp
      · rename_i x hx
        obtain ⟨v, e1, rv⟩ := r.get i x hx
        exact s_name c h e1 (hp.done w rv)
      · exact hp.elim
    · cases h
  | .gl x d => by
    intro c h w r hp
    rename_i X C E e Lo H cs st env σ Q
    unfold chkE at h
    split at h
    · exact s_glob (cs := cs) (st := st) (Lo := Lo) c h fun v dv => Post.done (rel := rV G) (x := .d d) hp w dv
    · cases h
  | .lit d => by
    intro c h w r hp
    rename_i X C E e Lo H cs st env σ Q
    unfold chkE at h
    split at h
    · exact s_lit (G := G) (cs := cs) (st := st) (Lo := Lo) h fun v dv => Post.done (rel := rV G) (x := .d d) hp w dv
    · cases h
  | .bin o a b => by
    intro c h w r hp
    rename_i X C E e Lo H cs st env σ Q
    unfold chkE at h
    split at h
    · rename_i l op rr pos
      simp only [Bool.and_eq_true] at h
      obtain ⟨⟨h1, h2⟩, h3⟩ := h
      have h1 : opOf o = op := of_decide_eq_true h1
      subst h1
      unfold evalE at hp
      refine ⟨_, pe_op op_c pe_c pe_c, ?_⟩
      refine sE a c h2 w r (Post.bind (rel := rV G) hp fun x s1 v H1 cs1 e0 s w1 rv hp => ?_)
      refine sE b c h3 w1 (r.kp s.kp s.pre) (Post.bind (rel := rV G) hp fun y s2 u H2 cs2 e1 s' w2 ru hp => ?_)
      obtain ⟨z, ez, hp⟩ := hp.opt
      have rv := RVal.kp rv s'.kp s'.pre
      unfold opV at ez
      obtain ⟨dx, e2, ez⟩ := obind ez
      obtain ⟨dy, e3, ez⟩ := obind ez
      exact sound_op c.K w2 ez (data_of w2 rv e2) (data_of w2 ru e3) hp.fin
    · cases h
  | .neg a => by
    intro c h w r hp
    rename_i X C E e Lo H cs st env σ Q
    unfold chkE at h
    split at h
    · unfold evalE at hp
      refine ⟨_, pe_un un_neg pe_c, ?_⟩
      refine sE a c h w r (Post.bind (rel := rV G) hp fun x s1 v H1 cs1 e0 s w1 rv hp => ?_)
      dsimp only at hp
      split at hp
      · have := dv_int rv
        subst this
        exact ⟨_, rfl, Post.done (rel := rV G) hp w1 (.int _)⟩
      · exact hp.elim
    · cases h
  | .nt a => by
    intro c h w r hp
    rename_i X C E e Lo H cs st env σ Q
    unfold chkE at h
    split at h
    · unfold evalE at hp
      refine ⟨_, pe_not pe_c, ?_⟩
      refine sE a c h w r (Post.bind (rel := rV G) hp fun x s1 v H1 cs1 e0 s w1 rv hp => ?_)
      obtain ⟨b, eb, hp⟩ := hp.opt
      have := boolOf_some eb
      subst this
      have := dv_bl rv
      subst this
      exact ⟨_, rfl, Post.done (rel := rV G) hp w1 (.bl _)⟩
    · cases h
  | .cmp cm a b => by
    intro c h w r hp
    rename_i X C E e Lo H cs st env σ Q
    unfold chkE at h
    split at h
    · rename_i l op rr pos
      simp only [Bool.and_eq_true, Bool.not_eq_true'] at h
      obtain ⟨⟨⟨h1, h2⟩, h3⟩, h4⟩ := h
      have h1 : cmOf cm = op := of_decide_eq_true h1
      subst h1
      unfold evalE at hp
      refine ⟨_, pe_cmpR op_c pe_c pe_c h2, ?_⟩
      refine sE a c h3 w r (Post.bind (rel := rV G) hp fun x s1 v H1 cs1 e0 s w1 rv hp => ?_)
      refine sE b c h4 w1 (r.kp s.kp s.pre) (Post.bind (rel := rV G) hp fun y s2 u H2 cs2 e1 s' w2 ru hp => ?_)
      obtain ⟨z, ez, hp⟩ := hp.opt
      have rv := RVal.kp rv s'.kp s'.pre
      unfold cmV at ez
      obtain ⟨dx, e2, ez⟩ := obind ez
      obtain ⟨dy, e3, ez⟩ := obind ez
      exact sound_cm c.K c.un ez (data_of w2 rv e2) (data_of w2 ru e3) (Post.done (rel := rV G) hp w2 (.bl _))
    · cases h
  | .chain cm cm' a b d => by
    intro c h w r hp
    rename_i X C E e Lo H cs st env σ Q
    unfold chkE at h
    split at h
    · rename_i l op op' rr rr' pos
      simp only [Bool.and_eq_true, Bool.not_eq_true'] at h
      obtain ⟨⟨⟨⟨⟨h1, h1'⟩, h2⟩, h3⟩, h4⟩, h5⟩ := h
      have h1 : cmOf cm = op := of_decide_eq_true h1
      have h1' : cmOf cm' = op' := of_decide_eq_true h1'
      subst h1 h1'
      unfold evalE at hp
      refine ⟨_, pe_chain op_c op_c pe_c pe_c pe_c h2, ?_⟩
      refine sE a c h3 w r (Post.bind (rel := rV G) hp fun x s1 v H1 cs1 e0 s w1 rv hp => ?_)
      refine sE b c h4 w1 (r.kp s.kp s.pre) (Post.bind (rel := rV G) hp fun y s2 u H2 cs2 e1 s' w2 ru hp => ?_)
      obtain ⟨z, ez, hp⟩ := hp.opt
      have rv := RVal.kp rv s'.kp s'.pre
      unfold cmV at ez
      obtain ⟨dx, e2, ez⟩ := obind ez
      obtain ⟨dy, e3, ez⟩ := obind ez
      refine sound_cm c.K c.un ez (data_of w2 rv e2) (data_of w2 ru e3) ⟨z, rfl, ?_⟩
      cases z with
      | false =>
        rw [if_neg Bool.false_ne_true]
        rw [if_neg Bool.false_ne_true] at hp
        exact Post.done (rel := rV G) hp w2 (.bl _)
      | true =>
        rw [if_pos rfl]
        rw [if_pos rfl] at hp
        refine sE d c h5 w2 ((r.kp s.kp s.pre).kp s'.kp s'.pre) (Post.bind (rel := rV G) hp fun y' s3 u' H3 cs3 e1' s'' w3 ru' hp => ?_)
        obtain ⟨z, ez, hp⟩ := hp.opt
        have ru := RVal.kp ru s''.kp s''.pre
        unfold cmV at ez
        obtain ⟨dx, e2, ez⟩ := obind ez
        obtain ⟨dy, e3, ez⟩ := obind ez
        exact sound_cm c.K c.un ez (data_of w3 ru e2) (data_of w3 ru' e3) (Post.done (rel := rV G) hp w3 (.bl _))
    · cases h
  | .isN a => by
    intro c h w r hp
    rename_i X C E e Lo H cs st env σ Q
    unfold chkE at h
    split at h
    · unfold evalE at hp
      refine ⟨_, pe_cmp (pc_isN pe_c), ?_⟩
      refine sE a c h w r (Post.bind (rel := rV G) hp fun x s1 v H1 cs1 e0 s w1 rv hp => ?_)
      rw [isNone_iff rv]
      exact Post.done (rel := rV G) hp w1 (.bl _)
    · cases h
  | .notN a => by
    intro c h w r hp
    rename_i X C E e Lo H cs st env σ Q
    unfold chkE at h
    split at h
    · unfold evalE at hp
      refine ⟨_, pe_cmp (pc_notN pe_c), ?_⟩
      refine sE a c h w r (Post.bind (rel := rV G) hp fun x s1 v H1 cs1 e0 s w1 rv hp => ?_)
      rw [isNone_iff rv]
      exact Post.done (rel := rV G) hp w1 (.bl _)
    · cases h
  | .and es => by
    intro c h w r hp
    rename_i X C E e Lo H cs st env σ Q
    unfold chkE at h
    split at h
    · exact sAnd es c h w r hp
    · cases h
  | .or es => by
    intro c h w r hp
    rename_i X C E e Lo H cs st env σ Q
    unfold chkE at h
    split at h
    · exact sOr es c h w r hp
    · cases h
  | .ite t a b => by
    intro c h w r hp
    rename_i X C E e Lo H cs st env σ Q
    unfold chkE at h
    split at h
    · simp only [Bool.and_eq_true] at h
      obtain ⟨⟨h1, h2⟩, h3⟩ := h
      unfold evalE at hp
      refine ⟨_, pe_ifExp pt_c pe_c pe_c, ?_⟩
      refine sT t c h1 w r (Post.bind (rel := rEq Bool) hp fun z s1 v H1 cs1 e0 s w1 rv hp => ?_)
      have rv : v = z := rv
      subst rv
      have r1 := r.kp s.kp s.pre
      cases v with
      | false =>
        rw [if_neg Bool.false_ne_true]
        exact sE b c h3 w1 r1 hp
      | true =>
        rw [if_pos rfl]
        exact sE a c h2 w1 r1 hp
    · cases h
  | .ix a i => by
    intro c h w r hp
    rename_i X C E e Lo H cs st env σ Q
    unfold chkE at h
    split at h
    · simp only [Bool.and_eq_true] at h
      obtain ⟨⟨h1, h2⟩, h3⟩ := h
      unfold evalE at hp
      refine ⟨_, pe_ix ix_c pe_c pe_c (plainIx h1), ?_⟩
      refine sE a c h2 w r (Post.bind (rel := rV G) hp fun x s1 v H1 cs1 e0 s w1 rv hp => ?_)
      refine sE i c h3 w1 (r.kp s.kp s.pre) (Post.bind (rel := rV G) hp fun y s2 u H2 cs2 e1 s' w2 ru hp => ?_)
      obtain ⟨z, ez, hp2⟩ := hp.opt
      clear hp
      have rv := RVal.kp rv s'.kp s'.pre
      cases y with
      | d y => exact sound_ix c.K w2 ez rv ru hp2.fin
      | _ =>
        unfold ixV at ez
        obtain ⟨dx, e2, ez⟩ := obind ez
        cases ez
    · cases h
  | .sl a lo hi => by
    intro c h w r hp
    rename_i X C E e Lo H cs st env σ Q
    unfold chkE at h
    split at h
    · simp only [Bool.and_eq_true] at h
      obtain ⟨⟨h1, h2⟩, h3⟩ := h
      unfold evalE at hp
      refine ⟨_, pe_slice sl_c pe_c po_c po_c, ?_⟩
      refine sE a c h1 w r (Post.bind (rel := rV G) hp fun x s1 v H1 cs1 e0 s w1 rv hp => ?_)
      refine sPo lo c h2 w1 (r.kp s.kp s.pre) (Post.bind (rel := rEq (Option Int)) hp fun y s2 u H2 cs2 e1 s' w2 ru hp => ?_)
      refine sPo hi c h3 w2 ((r.kp s.kp s.pre).kp s'.kp s'.pre) (Post.bind (rel := rEq (Option Int)) hp fun y' s3 u' H3 cs3 e1' s'' w3 ru' hp => ?_)
      obtain ⟨z, ez, hp2⟩ := hp.opt
      clear hp
      have rv := RVal.kp (RVal.kp rv s'.kp s'.pre) s''.kp s''.pre
      have ru : u = y := ru
      have ru' : u' = y' := ru'
      subst ru ru'
      exact sound_sl c.K w3 ez rv hp2.fin
    · cases h
  | .tup es => by
    intro c h w r hp
    rename_i X C E e Lo H cs st env σ Q
    unfold chkE at h
    split at h
    · unfold evalE at hp
      refine ⟨_, pe_tup pa_c, ?_⟩
      refine sDs es c h w r (Post.bind (rel := rDs G) hp fun x s1 v H1 cs1 e0 s w1 rv hp => ?_)
      dsimp only at hp
      split at hp
      · rename_i hl
        have rv : DvAll G.K H1 (Lv Lo cs1 s1) v x := rv
        refine ⟨by rw [rv.length, ← lim_eq]; exact hl, fun p hn => ?_⟩
        obtain ⟨a1, a2, a3⟩ := new_tup w1 hn rv
        exact hp.fin _ _ a1 a2 a3
      · exact hp.elim
    · cases h
  | .nw n => by
    intro c h w r hp
    rename_i X C E e Lo H cs st env σ Q
    unfold chkE at h
    unfold evalE at hp
    refine sN n c h w r (Post.bind (rel := rN G Lo H) hp fun x s1 v H1 cs1 e0 s w1 rv hp => ?_)
    obtain ⟨p, vs, rfl, n1, n2, n3, n4⟩ := rv
    obtain ⟨w', d⟩ := new_data w n1 n3 n2 n4
    exact Post.done (rel := rV G) hp w' d
  | .cellOf n => by
    intro c h w r hp
    rename_i X C E e Lo H cs st env σ Q
    unfold chkE at h
    unfold evalE at hp
    refine sN n c h w r (Post.bind0 (rel := rN G Lo H) hp fun x s1 v H1 cs1 e0 s w1 rv hp => ?_)
    obtain ⟨p, vs, rfl, n1, n2, n3, n4⟩ := rv
    obtain ⟨w', s'⟩ := new_cell w s n1 n3 n2 n4
    exact hp _ _ _ s' w' ⟨p, rfl, by rw [← w1.len]; simp⟩
  | .frz a => by
    intro c h w r hp
    rename_i X C E e Lo H cs st env σ Q
    unfold chkE at h
    rw [Bool.and_eq_true] at h
    unfold evalE at hp
    refine sE a c h.2 w r (Post.bind (rel := rV G) hp fun x s1 v H1 cs1 e0 s w1 rv hp => ?_)
    dsimp only at hp
    split at hp
    · split at hp
      · rename_i i xs q
        obtain ⟨a, vs, rfl, e1, e2, e3, d⟩ := cell_of w1 rv q
        obtain ⟨w', s', d'⟩ := w1.freeze e1 e2
        exact hp _ _ _ s' w' d'
      · exact hp.elim
    · exact hp.elim
  | .call f es => by
    intro c h w r hp
    rename_i X C E e Lo H cs st env σ Q
    unfold chkE at h
    split at h
    · rename_i x p y ys pos
      split at h
      · rename_i F hF
        simp only [Bool.and_eq_true, decide_eq_true_eq] at h
        obtain ⟨⟨⟨⟨h1, h2⟩, h3⟩, h4⟩, h5⟩ := h
        obtain ⟨g1, g2, fd, ps, g3, g4, g5⟩ := c.glob.fn f F hF
        subst h1
        have h5' := h5
        unfold chkEs at h5'
        split at h5'
        · cases h5'
        · rename_i a as
          rw [Bool.and_eq_true] at h5'
          unfold evalE at hp
          refine ⟨_, pe_call (es := ys) g5 c.room (c.gl h3) g1 g2 g4 .nil c.thr pa_c (okN_of h4).1 (chkE_ns h5'.1 ys _) (star_all (chkEs_star _ h5'.2)), ?_⟩
          refine sEs _ c h5 w r (Post.bind (rel := rVs G) hp fun xs s1 v H1 cs1 e0 s w1 rv hp => ?_)
          rw [List.append_nil]
          have rv : RVals G (Lv Lo cs1 s1) H1 cs1 xs v := rv
          exact ⟨by rw [← rv.length, evalEs_len h5 e0, h2], Lo, cs1, s1, xs, w1, rv, hp⟩
      · cases h
    · rename_i x p pos
      split at h
      · rename_i F hF
        simp only [Bool.and_eq_true, decide_eq_true_eq] at h
        obtain ⟨⟨⟨h1, h2⟩, h3⟩, h4⟩ := h
        obtain ⟨g1, g2, fd, ps, g3, g4, g5⟩ := c.glob.fn f F hF
        subst h1
        refine ⟨_, pe_call0 g5 c.room (c.gl h3) g1 g2 g4 .nil c.thr (okN_of h4).1, ?_⟩
        exact ⟨h2.symm, Lo, cs, st, [], w, trivial, hp⟩
      · cases h
    · cases h
  | .bi b es => by
    intro c h w r hp
    rename_i X C E e Lo H cs st env σ Q
    unfold chkE at h
    split at h
    · rename_i x p y ys pos
      rw [Bool.and_eq_true] at h
      obtain ⟨h1, h2⟩ := h
      obtain ⟨b1, b2, b3⟩ := c.blt h1 (bi_in b)
      subst b1
      have h2' := h2
      unfold chkEs at h2'
      split at h2'
      · cases h2'
      · rename_i a as
        rw [Bool.and_eq_true] at h2'
        unfold evalE at hp
        refine ⟨_, pe_bi (es := ys) b rfl b2 b3 pa_c (chkE_ns h2'.1 ys _) (star_all (chkEs_star _ h2'.2)), ?_⟩
        refine sEs _ c h2 w r (Post.bind (rel := rVs G) hp fun xs s1 v H1 cs1 e0 s w1 rv hp => ?_)
        obtain ⟨z, ez, hp⟩ := hp.opt
        exact sound_bi c.K c.calm w1 ez rv hp.fin
    · cases h
  | .isi a t => by
    intro c h w r hp
    rename_i X C E e Lo H cs st env σ Q
    unfold chkE at h
    split at h
    · rename_i x p y z p2 pos
      simp only [Bool.and_eq_true] at h
      obtain ⟨⟨h1, h2⟩, h3⟩ := h
      obtain ⟨b1, b2, b3⟩ := c.blt h1 (by decide +kernel)
      obtain ⟨t1, t2, t3⟩ := c.blt h3 (ty_in t)
      subst b1 t1
      unfold evalE at hp
      have ht := pe_ty (X := X) (p := p2) t rfl t2 t3
      refine ⟨_, pe_callB (id := "isinstance") call_c b2 b3 (by decide +kernel) (pa_cons pe_c (pa_cons ht pa_nil) (chkE_ns h2 _ _)) (by decide) (by decide) (chkE_ns h2 _ _), ?_⟩
      refine sE a c h2 w r (Post.bind (rel := rV G) hp fun x s1 v H1 cs1 e0 s w1 rv hp => ?_)
      show WC X (.builtin "isinstance") [v, .ty (tyName t)] H1 Q
      dsimp only at hp
      split at hp
      · exact hp.elim
      · exact hp.elim
      · exact hp.elim
      · rename_i i
        split at hp
        · rename_i xs q
          exact sound_isi c.K w1 rv (.inr ⟨i, xs, rfl, q⟩) (Post.done (rel := rV G) hp w1 (.bl _))
        · exact hp.elim
      · rename_i n1 n2 n3 n4
        cases x with
        | d y => exact sound_isi c.K w1 rv (.inl ⟨y, rfl, fun k z => n1 k (by rw [z])⟩) (Post.done (rel := rV G) hp w1 (.bl _))
        | cell i => exact absurd rfl (n4 i)
        | fn i => exact absurd rfl (n2 i)
        | fz i => exact absurd rfl (n3 i)
    · cases h
  | .append a d => by
    intro c h w r hp
    rename_i X C E e Lo H cs st env σ Q
    unfold chkE at h
    split at h
    · rename_i o m p y pos
      simp only [Bool.and_eq_true, decide_eq_true_eq] at h
      obtain ⟨⟨⟨⟨h1, h2⟩, h3⟩, h4⟩, h5⟩ := h
      subst h1
      have hb : attributeBase o "append" X.env (eval o X.env) = eval o X.env := by cases o <;> first | rfl | cases h2
      have ns := chkE_ns h5 [] X.env
      have ns : starEach [y] X.env = [(false, eval y X.env)] := ns
      unfold evalE at hp
      refine ⟨_, pe_bm PySem.F.plainAttrs_list PySem.F.slot_list_append PySem.F.type_list_append mt_append pe_c (pa_cons pe_c pa_nil ns) hb (by rw [ns]; rfl) h3 ns rfl, ?_⟩
      refine sE a c h4 w r (Post.bind (rel := rV G) hp fun x s1 v H1 cs1 e0 s w1 rv hp => ?_)
      dsimp only at hp
      split at hp
      · rename_i i
        split at hp
        · exact hp.elim
        · rename_i xs q
          obtain ⟨a0, vs, rfl, e1, e2, e3, dd⟩ := cell_of w1 rv q
          refine ⟨.inl ⟨rfl, _, .inl (.inl e3)⟩, ?_⟩
          refine sE d c h5 w1 (r.kp s.kp s.pre) (Post.bind (rel := rV G) hp fun y s2 u H2 cs2 e1' s' w2 ru hp => ?_)
          obtain ⟨z, ez, hp⟩ := hp.opt
          have := plain_some ez
          subst this
          have rv := RVal.kp rv s'.kp s'.pre
          dsimp only at hp
          split at hp
          · rename_i ys q2
            obtain ⟨a1, us, e5, e6, e7, e8, d2⟩ := cell_of w2 rv q2
            cases e5
            split at hp
            · rename_i hl
              obtain ⟨w', s3⟩ := w2.write e6 e7 (d2.append (.cons ru .nil))
              exact ⟨a0, us, u, rfl, rfl, e8, by rw [d2.length, ← lim_eq]; exact hl, hp _ _ _ s3 w' .non⟩
            · exact hp.elim
          · exact hp.elim
      · exact hp.elim
    · cases h
  | .pop a => by
    intro c h w r hp
    rename_i X C E e Lo H cs st env σ Q
    unfold chkE at h
    split at h
    · rename_i o m p pos
      simp only [Bool.and_eq_true, decide_eq_true_eq] at h
      obtain ⟨⟨⟨h1, h2⟩, h3⟩, h4⟩ := h
      subst h1
      have hb : attributeBase o "pop" X.env (eval o X.env) = eval o X.env := by cases o <;> first | rfl | cases h2
      unfold evalE at hp
      refine ⟨_, pe_bm0 PySem.F.plainAttrs_list PySem.F.slot_list_pop PySem.F.type_list_pop mt_pop pe_c hb h3, ?_⟩
      refine sE a c h4 w r (Post.bind (rel := rV G) hp fun x s1 v H1 cs1 e0 s w1 rv hp => ?_)
      dsimp only at hp
      split at hp
      · rename_i i
        split at hp
        · rename_i xs q
          obtain ⟨a0, vs, rfl, e1, e2, e3, dd⟩ := cell_of w1 rv q
          refine ⟨.inl ⟨rfl, _, .inl (.inl e3)⟩, ?_⟩
          split at hp
          · rename_i y hy
            obtain ⟨u, hu, du⟩ := dd.get hy
            obtain ⟨w', s3⟩ := w1.write e1 e2 dd.dropLast
            exact ⟨a0, vs, u, rfl, rfl, e3, by rw [dd.length]; exact hu, hp _ _ _ s3 w' (Dv.kp (s3.kp.trans (by rw [lv_set e2 (fun z => by cases z) (fun z => by cases z)]; exact .refl)) du)⟩
          · exact hp.elim
        · exact hp.elim
      · exact hp.elim
    · cases h
  | .popAt a d => by
    intro c h w r hp
    rename_i X C E e Lo H cs st env σ Q
    unfold chkE at h
    split at h
    · rename_i o m p y pos
      simp only [Bool.and_eq_true, decide_eq_true_eq] at h
      obtain ⟨⟨⟨⟨h1, h2⟩, h3⟩, h4⟩, h5⟩ := h
      subst h1
      have hb : attributeBase o "pop" X.env (eval o X.env) = eval o X.env := by cases o <;> first | rfl | cases h2
      have ns := chkE_ns h5 [] X.env
      have ns : starEach [y] X.env = [(false, eval y X.env)] := ns
      unfold evalE at hp
      refine ⟨_, pe_bm PySem.F.plainAttrs_list PySem.F.slot_list_pop PySem.F.type_list_pop mt_popAt pe_c (pa_cons pe_c pa_nil ns) hb (by rw [ns]; rfl) h3 ns rfl, ?_⟩
      refine sE a c h4 w r (Post.bind (rel := rV G) hp fun x s1 v H1 cs1 e0 s w1 rv hp => ?_)
      dsimp only at hp
      split at hp
      · rename_i i
        split at hp
        · exact hp.elim
        · rename_i xs q
          obtain ⟨a0, vs, rfl, e1, e2, e3, dd⟩ := cell_of w1 rv q
          refine ⟨.inl ⟨rfl, _, .inl (.inl e3)⟩, ?_⟩
          refine sE d c h5 w1 (r.kp s.kp s.pre) (Post.bind (rel := rV G) hp fun y s2 u H2 cs2 e1' s' w2 ru hp => ?_)
          have rv := RVal.kp rv s'.kp s'.pre
          dsimp only at hp
          split at hp
          · rename_i _ _ kk ys q2
            have := dv_int ru
            subst this
            obtain ⟨a1, us, e5, e6, e7, e8, d2⟩ := cell_of w2 rv q2
            cases e5
            unfold popR at hp
            split at hp
            · rename_i hk
              simp only [Bool.and_eq_true, decide_eq_true_eq] at hk
              split at hp
              · rename_i z hz
                obtain ⟨u, hu, du⟩ := d2.get hz
                obtain ⟨w', s3⟩ := w2.write e6 e7 (d2.eraseIdx kk.toNat)
                have hlim : LIM = 16777216 := rfl
                refine ⟨a0, us, kk, kk.toNat, u, rfl, rfl, e8, by omega, by omega, ?_, hu, hp _ _ _ s3 w' (Dv.kp s3.kp du)⟩
                rw [seqIndex_of hk.1.1 (by rw [d2.length]; exact hk.1.2)]
              · exact hp.elim
            · exact hp.elim
          · exact hp.elim
      · exact hp.elim
    · cases h
  | .minD a d => by
    intro c h w r hp
    rename_i X C E e Lo H cs st env σ Q
    unfold chkE at h
    split at h
    · rename_i x p y kn z kp pos
      simp only [Bool.and_eq_true, decide_eq_true_eq] at h
      obtain ⟨⟨⟨h0, h1⟩, h2⟩, h3⟩ := h
      obtain ⟨b1, b2, b3⟩ := c.blt h1 (by decide +kernel)
      subst b1
      subst h0
      unfold evalE at hp
      have ns := chkE_ns h2 [] X.env
      have ns : starEach [y] X.env = [(false, eval y X.env)] := ns
      refine ⟨_, pe_callBK (cr_minD c.calm c.un) b2 b3 (by decide +kernel) (pa_cons pe_c pa_nil ns) (pk_cons pe_c pk_nil) (by decide) (by decide) (by rw [ns]; rfl) (by rw [ns]; rfl) rfl rfl rfl, ?_⟩
      refine sE a c h2 w r (Post.bind (rel := rV G) hp fun x s1 v H1 cs1 e0 s w1 rv hp => ?_)
      refine sE d c h3 w1 (r.kp s.kp s.pre) (Post.bind (rel := rV G) hp fun y s2 u H2 cs2 e1' s' w2 ru hp => ?_)
      have rv := RVal.kp rv s'.kp s'.pre
      obtain ⟨xs, q, hp⟩ := hp.opt
      obtain ⟨a0, us, rfl, hs, dd⟩ := lst_of w2 rv q
      split at hp
      · cases dd
        exact ⟨a0, [], u, rfl, rfl, by rw [c.K]; exact hs, fun _ => Post.done (rel := rV G) hp w2 ru, fun m hm => absurd hm (by simp)⟩
      · obtain ⟨ns, hn, hp⟩ := hp.opt
        obtain ⟨m, hm, hp⟩ := hp.opt
        have eu := DvAll.ints dd hn
        subst eu
        obtain ⟨i1, i2, i3⟩ := minI_spec hm
        refine ⟨a0, ns, u, rfl, rfl, by rw [c.K]; exact hs, fun z => absurd z (by rintro rfl; simp at i1), fun k h4 h5 => ?_⟩
        have : k = m := by
          have a1 := i3 k h4
          have a2 := h5 m i2
          omega
        subst this
        exact Post.done (rel := rV G) hp w2 (.int _)
      · exact hp.elim
    · cases h
theorem sT : ∀ a : Te, ST P G cal k a
  | .nt t => by
    intro c h w r hp
    rename_i X C E e Lo H cs st env σ Q
    unfold chkT' at h
    split at h
    · unfold evalT at hp
      refine ⟨_, pt_not pt_c, ?_⟩
      refine sT t c h w r (Post.bind (rel := rEq Bool) hp fun z s1 v H1 cs1 e0 s w1 rv hp => ?_)
      have rv : v = z := rv
      subst rv
      exact Post.done (rel := rEq Bool) hp w1 rfl
    · cases h
  | .and ts => by
    intro c h w r hp
    rename_i X C E e Lo H cs st env σ Q
    unfold chkT' at h
    split at h
    · exact ⟨_, pw_c.pt, sAndT ts c h w r hp⟩
    · cases h
  | .or ts => by
    intro c h w r hp
    rename_i X C E e Lo H cs st env σ Q
    unfold chkT' at h
    split at h
    · exact ⟨_, pw_c.pt, sOrT ts c h w r hp⟩
    · cases h
  | .e a => by
    intro c h w r hp
    rename_i X C E e Lo H cs st env σ Q
    unfold chkT' at h
    rw [Bool.and_eq_true, Bool.or_eq_true] at h
    obtain ⟨h1, h2⟩ := h
    unfold evalT at hp
    by_cases hpl : plainT e = true
    · refine ⟨_, pt_truth pe_c (isT_plain hpl _), ?_⟩
      refine sE a c h1 w r (Post.bind (rel := rV G) hp fun x s1 v H1 cs1 e0 s w1 rv hp => ?_)
      obtain ⟨b, eb, hp⟩ := hp.opt
      exact ⟨b, sound_truth c.K w1 eb rv, Post.done (rel := rEq Bool) hp w1 rfl⟩
    · have h2 : isCmp a = true := h2.resolve_left hpl
      exact sCmpT a h2 c h1 w r hp
theorem sCmpT : ∀ a : Ex, isCmp a = true → ∀ {X : Cx} {C : Sc} {E : XK} {e : Expr} {Lo : Addr → Prop} {H : Hp} {cs : List Addr} {st : Sto} {env : En} {σ : L2.St} {Q : Bool → Hp → Prop}, Ctx P G cal k X C E → chkE P a C e = true →
  Wf G.K Lo H cs st → REnv G (Lv Lo cs st) H cs env σ → Post G Lo (rEq Bool) H cs st (do let (x, st) ← evalE cal a env st; let b ← ofOpt (truth st x); .ok (b, st)) Q E → WT X e σ H Q
  | .cmp cm a b, _, X, C, E, e, Lo, H, cs, st, env, σ, Q, c, h, w, r, hp => by
    unfold chkE at h
    split at h
    · rename_i l op rr pos
      simp only [Bool.and_eq_true, Bool.not_eq_true'] at h
      obtain ⟨⟨⟨h1, h2⟩, h3⟩, h4⟩ := h
      have h1 : cmOf cm = op := of_decide_eq_true h1
      subst h1
      unfold evalE at hp
      refine ⟨_, pt_cmpR op_c pe_c pe_c h2, ?_⟩
      refine sE a c h3 w r (Post.bind (rel := rV G) (assocR hp) fun x s1 v H1 cs1 e0 s w1 rv hp => ?_)
      refine sE b c h4 w1 (r.kp s.kp s.pre) (Post.bind (rel := rV G) (assocR hp) fun y s2 u H2 cs2 e1 s' w2 ru hp => ?_)
      obtain ⟨z, ez, hp⟩ := (assocR hp).opt
      have rv := RVal.kp rv s'.kp s'.pre
      unfold cmV at ez
      obtain ⟨dx, e2, ez⟩ := obind ez
      obtain ⟨dy, e3, ez⟩ := obind ez
      exact sound_cm c.K c.un ez (data_of w2 rv e2) (data_of w2 ru e3) ⟨z, rfl, Post.done (rel := rEq Bool) hp w2 rfl⟩
    · cases h
  | .chain cm cm' a b d, _, X, C, E, e, Lo, H, cs, st, env, σ, Q, c, h, w, r, hp => by
    unfold chkE at h
    split at h
    · rename_i l op op' rr rr' pos
      simp only [Bool.and_eq_true, Bool.not_eq_true'] at h
      obtain ⟨⟨⟨⟨⟨h1, h1'⟩, h2⟩, h3⟩, h4⟩, h5⟩ := h
      have h1 : cmOf cm = op := of_decide_eq_true h1
      have h1' : cmOf cm' = op' := of_decide_eq_true h1'
      subst h1 h1'
      unfold evalE at hp
      refine ⟨_, pt_chain op_c op_c pe_c pe_c pe_c h2, ?_⟩
      refine sE a c h3 w r (Post.bind (rel := rV G) (assocR hp) fun x s1 v H1 cs1 e0 s w1 rv hp => ?_)
      refine sE b c h4 w1 (r.kp s.kp s.pre) (Post.bind (rel := rV G) (assocR hp) fun y s2 u H2 cs2 e1 s' w2 ru hp => ?_)
      obtain ⟨z, ez, hp⟩ := (assocR hp).opt
      have rv := RVal.kp rv s'.kp s'.pre
      unfold cmV at ez
      obtain ⟨dx, e2, ez⟩ := obind ez
      obtain ⟨dy, e3, ez⟩ := obind ez
      refine sound_cm c.K c.un ez (data_of w2 rv e2) (data_of w2 ru e3) ⟨z, rfl, ?_⟩
      cases z with
      | false =>
        rw [if_neg Bool.false_ne_true]
        exact ⟨false, rfl, Post.done (rel := rEq Bool) hp w2 rfl⟩
      | true =>
        rw [if_pos rfl]
        refine sE d c h5 w2 ((r.kp s.kp s.pre).kp s'.kp s'.pre) (Post.bind (rel := rV G) (assocR hp) fun y' s3 u' H3 cs3 e1' s'' w3 ru' hp => ?_)
        obtain ⟨z, ez, hp⟩ := (assocR hp).opt
        have ru := RVal.kp ru s''.kp s''.pre
        unfold cmV at ez
        obtain ⟨dx, e2, ez⟩ := obind ez
        obtain ⟨dy, e3, ez⟩ := obind ez
        exact sound_cm c.K c.un ez (data_of w3 ru e2) (data_of w3 ru' e3) ⟨z, rfl, Post.done (rel := rEq Bool) hp w3 rfl⟩
    · cases h
  | .isN a, _, X, C, E, e, Lo, H, cs, st, env, σ, Q, c, h, w, r, hp => by
    unfold chkE at h
    split at h
    · unfold evalE at hp
      refine ⟨_, pt_cmp (pc_isN pe_c), ?_⟩
      refine sE a c h w r (Post.bind (rel := rV G) (assocR hp) fun x s1 v H1 cs1 e0 s w1 rv hp => ?_)
      rw [isNone_iff rv]
      exact ⟨_, rfl, Post.done (rel := rEq Bool) hp w1 rfl⟩
    · cases h
  | .notN a, _, X, C, E, e, Lo, H, cs, st, env, σ, Q, c, h, w, r, hp => by
    unfold chkE at h
    split at h
    · unfold evalE at hp
      refine ⟨_, pt_cmp (pc_notN pe_c), ?_⟩
      refine sE a c h w r (Post.bind (rel := rV G) (assocR hp) fun x s1 v H1 cs1 e0 s w1 rv hp => ?_)
      rw [isNone_iff rv]
      exact ⟨_, rfl, Post.done (rel := rEq Bool) hp w1 rfl⟩
    · cases h
theorem sAnd : ∀ a : Exs, SAnd P G cal k a
  | .nil => by
    intro c h w r hp
    exact hp.elim
  | .cons a .nil => by
    intro c h w r hp
    rename_i X C E e p Lo H cs st env σ Q
    cases e with
    | nil => cases h
    | cons x xs =>
      have h : (chkE P a C x && chkEs P .nil C xs) = true := h
      rw [Bool.and_eq_true] at h
      cases xs with
      | cons _ _ => cases h.2
      | nil => exact ⟨_, pe_one pe_c, sE a c h.1 w r hp⟩
  | .cons a (.cons b bs) => by
    intro c h w r hp
    rename_i X C E e p Lo H cs st env σ Q
    cases e with
    | nil => cases h
    | cons x xs =>
      have h : (chkE P a C x && chkEs P (.cons b bs) C xs) = true := h
      rw [Bool.and_eq_true] at h
      cases xs with
      | nil => cases h.2
      | cons y ys =>
        unfold evalAnd at hp
        refine ⟨_, pe_and pe_c pe_c, ?_⟩
        refine sE a c h.1 w r (Post.bind (rel := rV G) hp fun x s1 v H1 cs1 e0 s w1 rv hp => ?_)
        obtain ⟨z, ez, hp2⟩ := hp.opt
        clear hp
        have := boolOf_some ez
        subst this
        have := dv_bl rv
        subst this
        refine ⟨z, rfl, ?_⟩
        cases z with
        | false => 
          rw [if_neg Bool.false_ne_true]
          exact Post.done (rel := rV G) (x := .d (.bool false)) hp2 w1 (.bl _)
        | true => 
          rw [if_pos rfl]
          exact sAnd (.cons b bs) c h.2 w1 (r.kp s.kp s.pre) hp2
theorem sOr : ∀ a : Exs, SOr P G cal k a
  | .nil => by
    intro c h w r hp
    exact hp.elim
  | .cons a .nil => by
    intro c h w r hp
    rename_i X C E e p Lo H cs st env σ Q
    cases e with
    | nil => cases h
    | cons x xs =>
      have h : (chkE P a C x && chkEs P .nil C xs) = true := h
      rw [Bool.and_eq_true] at h
      cases xs with
      | cons _ _ => cases h.2
      | nil => exact ⟨_, pe_one pe_c, sE a c h.1 w r hp⟩
  | .cons a (.cons b bs) => by
    intro c h w r hp
    rename_i X C E e p Lo H cs st env σ Q
    cases e with
    | nil => cases h
    | cons x xs =>
      have h : (chkE P a C x && chkEs P (.cons b bs) C xs) = true := h
      rw [Bool.and_eq_true] at h
      cases xs with
      | nil => cases h.2
      | cons y ys =>
        unfold evalOr at hp
        refine ⟨_, pe_or pe_c pe_c, ?_⟩
        refine sE a c h.1 w r (Post.bind (rel := rV G) hp fun x s1 v H1 cs1 e0 s w1 rv hp => ?_)
        obtain ⟨z, ez, hp2⟩ := hp.opt
        clear hp
        have := boolOf_some ez
        subst this
        have := dv_bl rv
        subst this
        refine ⟨z, rfl, ?_⟩
        cases z with
        | true => 
          rw [if_pos rfl]
          exact Post.done (rel := rV G) (x := .d (.bool true)) hp2 w1 (.bl _)
        | false => 
          rw [if_neg Bool.false_ne_true]
          exact sOr (.cons b bs) c h.2 w1 (r.kp s.kp s.pre) hp2
theorem sAndT : ∀ a : Tes, SAndT P G cal k a
  | .nil => by
    intro c h w r hp
    exact hp.elim
  | .cons a .nil => by
    intro c h w r hp
    rename_i X C E e p Lo H cs st env σ Q
    cases e with
    | nil => cases h
    | cons x xs =>
      have h : (chkT' P a C x && chkTs' P .nil C xs) = true := h
      rw [Bool.and_eq_true] at h
      cases xs with
      | cons _ _ => cases h.2
      | nil => exact ⟨_, pw_and1 pt_c, sT a c h.1 w r hp⟩
  | .cons a (.cons b bs) => by
    intro c h w r hp
    rename_i X C E e p Lo H cs st env σ Q
    cases e with
    | nil => cases h
    | cons x xs =>
      have h : (chkT' P a C x && chkTs' P (.cons b bs) C xs) = true := h
      rw [Bool.and_eq_true] at h
      cases xs with
      | nil => cases h.2
      | cons y ys =>
        unfold evalAndT at hp
        refine ⟨_, pw_and pt_c pw_c, ?_⟩
        refine sT a c h.1 w r (Post.bind (rel := rEq Bool) hp fun z s1 v H1 cs1 e0 s w1 rv hp => ?_)
        have rv : v = z := rv
        subst rv
        cases v with
        | false => 
          rw [if_neg Bool.false_ne_true]
          exact Post.done (rel := rEq Bool) (x := false) hp w1 rfl
        | true => 
          rw [if_pos rfl]
          exact sAndT (.cons b bs) c h.2 w1 (r.kp s.kp s.pre) hp
theorem sOrT : ∀ a : Tes, SOrT P G cal k a
  | .nil => by
    intro c h w r hp
    exact hp.elim
  | .cons a .nil => by
    intro c h w r hp
    rename_i X C E e p Lo H cs st env σ Q
    cases e with
    | nil => cases h
    | cons x xs =>
      have h : (chkT' P a C x && chkTs' P .nil C xs) = true := h
      rw [Bool.and_eq_true] at h
      cases xs with
      | cons _ _ => cases h.2
      | nil => exact ⟨_, pw_or1 pt_c, sT a c h.1 w r hp⟩
  | .cons a (.cons b bs) => by
    intro c h w r hp
    rename_i X C E e p Lo H cs st env σ Q
    cases e with
    | nil => cases h
    | cons x xs =>
      have h : (chkT' P a C x && chkTs' P (.cons b bs) C xs) = true := h
      rw [Bool.and_eq_true] at h
      cases xs with
      | nil => cases h.2
      | cons y ys =>
        unfold evalOrT at hp
        refine ⟨_, pw_or pt_c pw_c, ?_⟩
        refine sT a c h.1 w r (Post.bind (rel := rEq Bool) hp fun z s1 v H1 cs1 e0 s w1 rv hp => ?_)
        have rv : v = z := rv
        subst rv
        cases v with
        | true => 
          rw [if_pos rfl]
          exact Post.done (rel := rEq Bool) (x := true) hp w1 rfl
        | false => 
          rw [if_neg Bool.false_ne_true]
          exact sOrT (.cons b bs) c h.2 w1 (r.kp s.kp s.pre) hp
theorem sIfs : ∀ a : Tes, SIfs P G cal k a
  | .nil => by
    intro c h w r hp
    rename_i X C E e Lo H cs st env σ Q
    cases e with
    | cons _ _ => cases h
    | nil => exact ⟨_, pts_nil, Post.done (rel := rEq Bool) (x := true) hp w rfl⟩
  | .cons a .nil => by
    intro c h w r hp
    rename_i X C E e Lo H cs st env σ Q
    cases e with
    | nil => cases h
    | cons x xs =>
      have h : (chkT' P a C x && chkTs' P .nil C xs) = true := h
      rw [Bool.and_eq_true] at h
      cases xs with
      | cons _ _ => cases h.2
      | nil => exact ⟨_, pts_one pt_c, sT a c h.1 w r hp⟩
  | .cons a (.cons b bs) => by
    intro c h w r hp
    exact hp.elim
theorem sPo : ∀ a : Po, SPo P G cal k a
  | .no => by
    intro c h w r hp
    rename_i X C E e Lo H cs st env σ Q
    cases e with
    | some _ => cases h
    | none => exact ⟨_, po_none, Post.done (rel := rEq (Option Int)) (x := none) hp w rfl⟩
  | .at a => by
    intro c h w r hp
    rename_i X C E e Lo H cs st env σ Q
    cases e with
    | none => cases h
    | some x =>
      have h : chkE P a C x = true := h
      unfold evalPo at hp
      refine ⟨_, po_some pe_c, ?_⟩
      refine sE a c h w r (Post.bind (rel := rV G) hp fun x s1 v H1 cs1 e0 s w1 rv hp => ?_)
      dsimp only at hp
      split at hp
      · have := dv_int rv
        subst this
        exact ⟨_, rfl, Post.done (rel := rEq (Option Int)) hp w1 rfl⟩
      · exact hp.elim
theorem sEs : ∀ a : Exs, SEs P G cal k a
  | .nil => by
    intro c h w r hp
    rename_i X C E e Lo H cs st env σ Q
    cases e with
    | cons _ _ => cases h
    | nil => exact ⟨_, pa_nil, Post.done (rel := rVs G) (x := []) hp w trivial⟩
  | .cons a as => by
    intro c h w r hp
    rename_i X C E e Lo H cs st env σ Q
    cases e with
    | nil => cases h
    | cons x xs =>
      have h : (chkE P a C x && chkEs P as C xs) = true := h
      rw [Bool.and_eq_true] at h
      unfold evalEs at hp
      refine ⟨_, pa_cons pe_c pa_c (chkE_ns h.1 _ _), ?_⟩
      refine sE a c h.1 w r (Post.bind (rel := rV G) hp fun x s1 v H1 cs1 e0 s w1 rv hp => ?_)
      refine sEs as c h.2 w1 (r.kp s.kp s.pre) (Post.bind (rel := rVs G) hp fun y s2 u H2 cs2 e1 s' w2 ru hp => ?_)
      exact Post.done (rel := rVs G) hp w2 ⟨RVal.kp rv s'.kp s'.pre, ru⟩
theorem sDs : ∀ a : Exs, SDs P G cal k a
  | .nil => by
    intro c h w r hp
    rename_i X C E e Lo H cs st env σ Q
    cases e with
    | cons _ _ => cases h
    | nil => exact ⟨_, pa_nil, Post.done (rel := rDs G) (x := []) hp w .nil⟩
  | .cons a as => by
    intro c h w r hp
    rename_i X C E e Lo H cs st env σ Q
    cases e with
    | nil => cases h
    | cons x xs =>
      have h : (chkE P a C x && chkEs P as C xs) = true := h
      rw [Bool.and_eq_true] at h
      unfold evalDs at hp
      refine ⟨_, pa_cons pe_c pa_c (chkE_ns h.1 _ _), ?_⟩
      refine sE a c h.1 w r (Post.bind (rel := rV G) hp fun x s1 v H1 cs1 e0 s w1 rv hp => ?_)
      obtain ⟨d, ed, hp2⟩ := hp.opt
      clear hp
      have := plain_some ed
      subst this
      refine sDs as c h.2 w1 (r.kp s.kp s.pre) (Post.bind (rel := rDs G) hp2 fun y s2 u H2 cs2 e1 s' w2 ru hp => ?_)
      exact Post.done (rel := rDs G) hp w2 (.cons (Dv.kp s'.kp rv) ru)
theorem sN : ∀ a : Nw, SN P G cal k a
  | .disp es => by
    intro c h w r hp
    rename_i X C E e Lo H cs st env σ Q
    unfold chkN at h
    split at h
    · unfold evalN at hp
      refine ⟨_, pe_lst pa_c, ?_⟩
      refine sDs es c h w r (Post.bind (rel := rDs G) hp fun xs s1 v H1 cs1 e0 s w1 rv hp => ?_)
      dsimp only at hp
      split at hp
      · rename_i hl
        have rv : DvAll G.K H1 (Lv Lo cs1 s1) v xs := rv
        refine ⟨by rw [rv.length, ← lim_eq]; exact hl, fun p hn => ?_⟩
        obtain ⟨w', kk⟩ := w1.enter (vs := v) hn
        exact hp _ _ _ (w1.stp_alloc hn) (w1.alloc hn) ⟨p, v, rfl, none_back s w w1 hn, upd_same, w', DvAll.kp kk rv⟩
      · exact hp.elim
    · cases h
  | .comp tg src ifs a own => by
    intro c h w r hp
    rename_i X C E e Lo H cs st env σ Q
    unfold chkN at h
    split at h
    · rename_i elt t it fs z scope pos
      simp only [Bool.and_eq_true, decide_eq_true_eq, List.all_eq_true] at h
      obtain ⟨⟨⟨⟨⟨⟨⟨h0, h1⟩, h2⟩, h3⟩, h4⟩, h5⟩, h6⟩, h7⟩ := h
      subst h0
      have bo : BlkOk X.N X.env.scope scope (ownP C own) := blkOk_by (by rw [c.N, c.sc]; exact h1)
      refine ⟨_, pe_lc (own := ownP C own) c.calm (by rw [c.N]; exact c.nd) pi_c bo gB_ok tB_ok eB_ok (fold_set h5 _), ?_⟩
      rw [own_map]
      exact comp_core (sS src) (sIfs ifs) (sE a) c bo.kind h2 h3 h4 h6 h7 w r hp
    · cases h
  | .ofSeq a => by
    intro c h w r hp
    rename_i X C E e Lo H cs st env σ Q
    unfold chkN at h
    split at h
    · rename_i x p y pos
      rw [Bool.and_eq_true] at h
      obtain ⟨h1, h2⟩ := h
      obtain ⟨b1, b2, b3⟩ := c.blt h1 (by decide +kernel)
      subst b1
      unfold evalN at hp
      refine ⟨_, pe_callTy (T := "list") call_list_of b2 b3 (by decide +kernel) (pa_cons pe_c pa_nil (chkE_ns h2 _ _)) (by decide) (by decide) (chkE_ns h2 _ _) rfl, ?_⟩
      refine sE a c h2 w r (Post.bind (rel := rV G) hp fun x s1 v H1 cs1 e0 s w1 rv hp => ?_)
      obtain ⟨xs, ex, hp2⟩ := hp.opt
      clear hp
      obtain ⟨b, vs, rfl, hs, d⟩ := seq_of w1 rv ex
      refine ⟨b, vs, rfl, by rw [c.K]; exact hs, fun p hn => ?_⟩
      obtain ⟨w', kk⟩ := w1.enter (vs := vs) hn
      exact hp2 _ _ _ (w1.stp_alloc hn) (w1.alloc hn) ⟨p, vs, rfl, none_back s w w1 hn, upd_same, w', DvAll.kp kk d⟩
    · cases h
theorem sS : ∀ a : Sr, SS P G cal k a
  | .ex a => by
    intro c h w r hp
    rename_i X C E t e Lo H cs st env σ Q
    have h : chkE P a C e = true := h
    unfold evalSr at hp
    cases he : evalE cal a env st with
    | bad => rw [he] at hp; exact hp.elim
    | exc cc ss =>
      refine ⟨_, pi_list pe_c, ?_⟩
      refine sE a c h w r (Post.bind (rel := rV G) hp fun x s1 v H1 cs1 e0 s w1 rv hp => ?_)
      rw [he] at e0
      cases e0
    | ok p =>
      obtain ⟨x0, s0⟩ := p
      cases x0 with
      | d y =>
        cases y with
        | list xs =>
          refine ⟨_, pi_list pe_c, ?_⟩
          refine sE a c h w r (Post.bind (rel := rV G) hp fun x s1 v H1 cs1 e0 s w1 rv hp => ?_)
          rw [he] at e0
          cases e0
          cases rv with
          | lst hl d =>
            refine ⟨_, rfl, ⟨_, by rw [c.K]; exact hl.sq⟩, ?_⟩
            rw [c.K]
            exact Post.done (rel := rS G) (x := (xs, none)) hp w1 ⟨_, src_list, hl, d⟩
        | tuple xs =>
          refine ⟨_, pi_tup pe_c, ?_⟩
          refine sE a c h w r (Post.bind (rel := rV G) hp fun x s1 v H1 cs1 e0 s w1 rv hp => ?_)
          rw [he] at e0
          cases e0
          cases rv with
          | tup hl d =>
            refine ⟨_, rfl, ⟨_, by rw [c.K]; exact hl⟩, ?_⟩
            rw [c.K]
            exact Post.done (rel := rS G) (x := (xs, none)) hp w1 ⟨_, src_tup, hl, d⟩
        | _ => rw [he] at hp; exact hp.elim
      | cell i =>
        refine ⟨_, pi_list pe_c, ?_⟩
        refine sE a c h w r (Post.bind (rel := rV G) hp fun x s1 v H1 cs1 e0 s w1 rv hp => ?_)
        rw [he] at e0
        cases e0
        obtain ⟨xs, ex, hp2⟩ := hp.opt
        clear hp
        obtain ⟨b, vs, rfl, q1, q2, q3, d⟩ := cell_of w1 rv ex
        refine ⟨_, rfl, ⟨_, .inl (.inl q3)⟩, ?_⟩
        rw [c.K]
        exact Post.done (rel := rS G) (x := (xs, some i)) hp2 w1 ⟨_, src_cell, q1, ex⟩
      | fn i => rw [he] at hp; exact hp.elim
      | fz xs =>
        refine ⟨_, pi_list pe_c, ?_⟩
        refine sE a c h w r (Post.bind (rel := rV G) hp fun x s1 v H1 cs1 e0 s w1 rv hp => ?_)
        rw [he] at e0
        cases e0
        obtain ⟨b, vs, rfl, q3, d⟩ := rv
        refine ⟨_, rfl, ⟨_, by rw [c.K]; exact q3.sq⟩, ?_⟩
        rw [c.K]
        exact Post.done (rel := rS G) (x := (xs, none)) hp w1 ⟨_, src_frz, q3, d⟩
  | .rng1 a => by
    intro c h w r hp
    rename_i X C E t e Lo H cs st env σ Q
    unfold chkS at h
    split at h
    · rename_i x p y pos
      rw [Bool.and_eq_true] at h
      obtain ⟨h1, h2⟩ := h
      obtain ⟨b1, b2, b3⟩ := c.blt h1 (by decide +kernel)
      subst b1
      unfold evalSr at hp
      refine ⟨_, pi_range1 b2 b3 (pa_cons pe_c pa_nil (chkE_ns h2 _ _)) (chkE_ns h2 _ _), ?_⟩
      refine sE a c h2 w r (Post.bind (rel := rV G) hp fun x s1 v H1 cs1 e0 s w1 rv hp => ?_)
      dsimp only at hp
      split at hp
      · have := dv_int rv
        subst this
        split at hp
        · rename_i i hb
          unfold bd62 at hb
          simp only [Bool.and_eq_true, decide_eq_true_eq] at hb
          exact ⟨i, rfl, hb.1, hb.2, Post.done (rel := rS G) (x := (rngD 0 i.toNat, none)) hp w1 ⟨_, src_rng, trivial⟩⟩
        · exact hp.elim
      · exact hp.elim
    · cases h
  | .rng2 a b => by
    intro c h w r hp
    rename_i X C E t e Lo H cs st env σ Q
    unfold chkS at h
    split at h
    · rename_i x p y z pos
      simp only [Bool.and_eq_true] at h
      obtain ⟨⟨h1, h2⟩, h3⟩ := h
      obtain ⟨b1, b2, b3⟩ := c.blt h1 (by decide +kernel)
      subst b1
      unfold evalSr at hp
      refine ⟨_, pi_range2 b2 b3 (pa_cons pe_c (pa_cons pe_c pa_nil (chkE_ns h3 _ _)) (chkE_ns h2 _ _)) (by rw [chkE_ns h2 _ _, chkE_ns h3 _ _]; rfl) (chkE_ns h3 _ _), ?_⟩
      refine sE a c h2 w r (Post.bind (rel := rV G) hp fun x s1 v H1 cs1 e0 s w1 rv hp => ?_)
      refine sE b c h3 w1 (r.kp s.kp s.pre) (Post.bind (rel := rV G) hp fun y s2 u H2 cs2 e1 s' w2 ru hp => ?_)
      have rv := RVal.kp rv s'.kp s'.pre
      dsimp only at hp
      split at hp
      · have := dv_int rv
        subst this
        have := dv_int ru
        subst this
        split at hp
        · rename_i hb
          unfold bd62 at hb
          simp only [Bool.and_eq_true, decide_eq_true_eq] at hb
          exact ⟨_, _, rfl, ⟨hb.1.1, hb.1.2, hb.2.1, hb.2.2⟩, Post.done (rel := rS G) hp w2 ⟨_, src_rng, trivial⟩⟩
        · exact hp.elim
      · exact hp.elim
    · cases h
  | .rng3 a b d => by
    intro c h w r hp
    rename_i X C E t e Lo H cs st env σ Q
    unfold chkS at h
    split at h
    · rename_i x p y z z' pos
      simp only [Bool.and_eq_true] at h
      obtain ⟨⟨⟨h1, h2⟩, h3⟩, h4⟩ := h
      obtain ⟨b1, b2, b3⟩ := c.blt h1 (by decide +kernel)
      subst b1
      unfold evalSr at hp
      refine ⟨_, pi_range3 b2 b3 (pa_cons pe_c (pa_cons pe_c (pa_cons pe_c pa_nil (chkE_ns h4 _ _)) (chkE_ns h3 _ _)) (chkE_ns h2 _ _)) (chkE_ns h2 _ _) (by rw [chkE_ns h3 _ _, chkE_ns h4 _ _]; rfl), ?_⟩
      refine sE a c h2 w r (Post.bind (rel := rV G) hp fun x s1 v H1 cs1 e0 s w1 rv hp => ?_)
      refine sE b c h3 w1 (r.kp s.kp s.pre) (Post.bind (rel := rV G) hp fun y s2 u H2 cs2 e1 s' w2 ru hp => ?_)
      refine sE d c h4 w2 ((r.kp s.kp s.pre).kp s'.kp s'.pre) (Post.bind (rel := rV G) hp fun y' s3 u' H3 cs3 e1' s'' w3 ru' hp => ?_)
      have rv := RVal.kp (RVal.kp rv s'.kp s'.pre) s''.kp s''.pre
      have ru := RVal.kp ru s''.kp s''.pre
      dsimp only at hp
      split at hp
      · have := dv_int rv
        subst this
        have := dv_int ru
        subst this
        have := dv_int ru'
        subst this
        split at hp
        · rename_i hb
          unfold bd62 at hb
          simp only [Bool.and_eq_true, decide_eq_true_eq] at hb
          exact ⟨_, _, -1, _, rfl, RgC.neg hb.1.1 hb.1.2 hb.2.1 hb.2.2, Post.done (rel := rS G) hp w3 ⟨_, src_rngC, trivial⟩⟩
        · exact hp.elim
      · exact hp.elim
    · cases h
  | .zip a b => by
    intro c h w r hp
    rename_i X C E t e Lo H cs st env σ Q
    unfold chkS at h
    split at h
    · rename_i x p y z pos
      simp only [Bool.and_eq_true] at h
      obtain ⟨⟨⟨h0, h1⟩, h2⟩, h3⟩ := h
      obtain ⟨b1, b2, b3⟩ := c.blt h1 (by decide +kernel)
      subst b1
      cases t with
      | Tuple elts kk tpos =>
        unfold evalSr at hp
        refine ⟨_, RZ.pi_zipA b2 b3 (pa_cons pe_c (pa_cons pe_c pa_nil (chkE_ns h3 _ _)) (chkE_ns h2 _ _)) (chkE_ns h2 _ _) (by rw [chkE_ns h3 _ _]; rfl), ?_⟩
        refine sE a c h2 w r (Post.bind (rel := rV G) hp fun x s1 v H1 cs1 e0 s w1 rv hp => ?_)
        refine sE b c h3 w1 (r.kp s.kp s.pre) (Post.bind (rel := rV G) hp fun y s2 u H2 cs2 e1 s' w2 ru hp => ?_)
        have rv := RVal.kp rv s'.kp s'.pre
        dsimp only at hp
        split at hp
        · rename_i xs ys
          cases rv with
          | lst hl d =>
            cases ru with
            | lst hl' d' =>
              refine ⟨_, _, _, _, rfl, .inl ⟨by rw [c.K]; exact hl.sq, by rw [c.K]; exact hl'.sq, ?_⟩⟩
              rw [c.K]
              exact Post.done (rel := rS G) hp w2 ⟨_, src_zip, ⟨hl, d⟩, hl', d'⟩
        · rename_i xs ys
          cases rv with
          | tup hl d =>
            cases ru with
            | tup hl' d' =>
              refine ⟨_, _, _, _, rfl, .inr ⟨by rw [c.K]; exact hl, by rw [c.K]; exact hl', ?_⟩⟩
              rw [c.K]
              exact Post.done (rel := rS G) hp w2 ⟨_, src_zipT, ⟨hl, d⟩, hl', d'⟩
        · exact hp.elim
      | _ => cases h0
    · cases h
  | .enum a => by
    intro c h w r hp
    rename_i X C E t e Lo H cs st env σ Q
    unfold chkS at h
    split at h
    · rename_i x p y pos
      simp only [Bool.and_eq_true] at h
      obtain ⟨⟨h0, h1⟩, h2⟩ := h
      obtain ⟨b1, b2, b3⟩ := c.blt h1 (by decide +kernel)
      subst b1
      cases t with
      | Tuple elts kk tpos =>
        unfold evalSr at hp
        refine ⟨_, pi_enum b2 b3 (pa_cons pe_c pa_nil (chkE_ns h2 _ _)) (chkE_ns h2 _ _), ?_⟩
        refine sE a c h2 w r (Post.bind (rel := rV G) hp fun x s1 v H1 cs1 e0 s w1 rv hp => ?_)
        dsimp only at hp
        split at hp
        · rename_i xs
          cases rv with
          | lst hl d =>
            refine ⟨_, _, rfl, by rw [c.K]; exact hl.sq, ?_⟩
            rw [c.K]
            exact Post.done (rel := rS G) hp w1 ⟨_, src_enum, hl, d⟩
        · exact hp.elim
      | _ => cases h0
    · cases h
  | .enumz a b => by
    intro c h w r hp
    rename_i X C E t e Lo H cs st env σ Q
    unfold chkS at h
    split at h
    · rename_i x p x2 p2 y z pos2 pos
      simp only [Bool.and_eq_true] at h
      obtain ⟨⟨⟨⟨h0, h1⟩, hz⟩, h2⟩, h3⟩ := h
      obtain ⟨b1, b2, b3⟩ := c.blt h1 (by decide +kernel)
      obtain ⟨z1, z2, z3⟩ := c.blt hz (by decide +kernel)
      subst b1
      subst z1
      cases t with
      | Tuple elts kk tpos =>
        unfold evalSr at hp
        refine ⟨_, pi_enumZ b2 b3 z2 z3 (pa_cons pe_c (pa_cons pe_c pa_nil (chkE_ns h3 _ _)) (chkE_ns h2 _ _)) (chkE_ns h2 _ _) (by rw [chkE_ns h3 _ _]; rfl), ?_⟩
        refine sE a c h2 w r (Post.bind (rel := rV G) hp fun x s1 v H1 cs1 e0 s w1 rv hp => ?_)
        refine sE b c h3 w1 (r.kp s.kp s.pre) (Post.bind (rel := rV G) hp fun y s2 u H2 cs2 e1 s' w2 ru hp => ?_)
        have rv := RVal.kp rv s'.kp s'.pre
        dsimp only at hp
        split at hp
        · rename_i xs ys
          cases rv with
          | tup hl d =>
            cases ru with
            | tup hl' d' =>
              refine ⟨_, _, _, _, rfl, by rw [c.K]; exact hl, by rw [c.K]; exact hl', ?_⟩
              rw [c.K]
              exact Post.done (rel := rS G) hp w2 ⟨_, src_enumZ, ⟨hl, d⟩, hl', d'⟩
        · exact hp.elim
      | _ => cases h0
    · cases h
end
end
end Py

set_option Elab.async false
set_option linter.all false
set_option maxRecDepth 100000
set_option maxHeartbeats 8000000
/-! IJ: the interpreter is sound: statements -/
namespace Py
open PySem PySem.Spec PyProof.Rows L2

def PostS (G : GG) (Lo : Addr → Prop) (H : Hp) (cs : List Addr) (st : Sto) (o : R (Out × Sto)) (D : Ends) (E : XK) : Prop :=
  match o with
  | .ok (.nx env', st') => ∀ σ' H' cs', Stp Lo H cs st H' cs' st' → Wf G.K Lo H' cs' st' → REnv G (Lv Lo cs' st') H' cs' env' σ' → D.nx σ' H'
  | .ok (.rt x, st') => ∀ v H' cs', Stp Lo H cs st H' cs' st' → Wf G.K Lo H' cs' st' → RVal G (Lv Lo cs' st') H' cs' x v → D.rt v H'
  | .ok (.bk env', st') => ∀ σ' H' cs', Stp Lo H cs st H' cs' st' → Wf G.K Lo H' cs' st' → REnv G (Lv Lo cs' st') H' cs' env' σ' → D.bk σ' H'
  | .ok (.ct env', st') => ∀ σ' H' cs', Stp Lo H cs st H' cs' st' → Wf G.K Lo H' cs' st' → REnv G (Lv Lo cs' st') H' cs' env' σ' → D.ct σ' H'
  | .exc c st' => ∀ H' cs', Stp Lo H cs st H' cs' st' → Wf G.K Lo H' cs' st' → E (.ref (G.ca c)) none H'
  | .bad => False
section
variable {G : GG} {Lo : Addr → Prop} {H : Hp} {cs : List Addr} {st : Sto} {D : Ends} {E : XK}
theorem PostS.stp {o : R (Out × Sto)} {H1 : Hp} {cs1 : List Addr} {st1 : Sto} (h : PostS G Lo H cs st o D E) (s : Stp Lo H cs st H1 cs1 st1) : PostS G Lo H1 cs1 st1 o D E := by
  cases o with
  | ok p =>
    obtain ⟨o, st'⟩ := p
    cases o with
    | nx e => exact fun v H' cs' s' w r => h v H' cs' (s.trans s') w r
    | rt e => exact fun v H' cs' s' w r => h v H' cs' (s.trans s') w r
    | bk e => exact fun v H' cs' s' w r => h v H' cs' (s.trans s') w r
    | ct e => exact fun v H' cs' s' w r => h v H' cs' (s.trans s') w r
  | exc c st' => exact fun H' cs' s' w => h H' cs' (s.trans s') w
  | bad => exact h
theorem PostS.bind {α β : Type} {rel : Rel α β} {o : R (α × Sto)} {f : α × Sto → R (Out × Sto)} {Q' : β → Hp → Prop} (h : PostS G Lo H cs st (o >>= f) D E)
    (k : ∀ x s1 v H1 cs1, o = .ok (x, s1) → Stp Lo H cs st H1 cs1 s1 → Wf G.K Lo H1 cs1 s1 → rel (Lv Lo cs1 s1) H1 cs1 s1 x v → PostS G Lo H1 cs1 s1 (f (x, s1)) D E → Q' v H1) : Post G Lo rel H cs st o Q' E := by
  cases o with
  | ok p =>
    obtain ⟨x, s1⟩ := p
    exact fun v H' cs' s' w r => k x s1 v H' cs' rfl s' w r (PostS.stp (show PostS G Lo H cs st (f (x, s1)) D E from h) s')
  | exc c st' => exact h
  | bad => exact h
theorem PostS.opt {ε : Type} {o : Option ε} {f : ε → R (Out × Sto)} (h : PostS G Lo H cs st (ofOpt o >>= f) D E) : ∃ z, o = some z ∧ PostS G Lo H cs st (f z) D E := by
  cases o with
  | none => exact h.elim
  | some z => exact ⟨z, rfl, h⟩
theorem PostS.next {env : En} (h : PostS G Lo H cs st (.ok (.nx env, st)) D E) (w : Wf G.K Lo H cs st) {σ : L2.St} (r : REnv G (Lv Lo cs st) H cs env σ) : D.nx σ H := h σ H cs .refl w r
end

theorem sw_none {e : Expr} (h : notComp e = true) (t : Option Expr) (l : Nat) (env : Env) : swapsWith e t l env = pure false := by
  cases e <;> first | rfl | cases h
theorem sw_tuple (e : Expr) (es : List Expr) (k : Nat) (p : Pos) (l : Nat) (env : Env) : swapsWithSole [.Tuple es k p] e l env = pure false := by
  cases e <;> rfl
theorem sw_sub (e o i : Expr) (p : Pos) (l : Nat) (env : Env) : swapsWithSole [.Subscript o i p] e l env = pure false := by
  cases e <;> rfl
theorem sw_cell {elt : Expr} {gs : List Comprehension} {scope : Scope} {pos py : Pos} {y : Str} {l : Nat} {env : Env} (hy : env.scope.names.lookup y ≠ some .local) : swapsWith (.ListComp elt gs scope pos) (some (.Name y py)) l env = pure false := by
  have ky : (env.kindOf y == some .local) = false := by
    rw [beq_eq_false_iff_ne]
    exact hy
  unfold swapsWith
  simp only [ky, Bool.and_false, Bool.false_and]
theorem sws_sub (e : Expr) (o i : Expr) (p : Pos) (env : Env) : swappedStores [.Subscript o i p] e env = pure none := by
  cases e <;> rfl
theorem blockKind_fn {env : Env} (hk : env.scope.kind = .function) : env.blockKind = .function := by
  unfold Env.blockKind
  rw [hk]
  rfl
theorem filterMap_short {α β : Type} {f : α → Option β} : ∀ {l : List α} {x : α}, x ∈ l → f x = none → (l.filterMap f).length < l.length
  | a :: l, x, hm, hx => by
    rcases List.mem_cons.mp hm with rfl | hm
    · rw [List.filterMap_cons, hx]
      exact Nat.lt_succ_of_le (List.length_filterMap_le _ _)
    · have ih := filterMap_short (f := f) hm hx
      rw [List.filterMap_cons]
      split
      · exact Nat.lt_succ_of_lt ih
      · rw [List.length_cons, List.length_cons]
        omega
theorem sws_none {C : Sc} {env : Env} (hs : env.scope = C.sc) {es : List Expr} {e : Expr} {k : Nat} {p : Pos} (h : noParB C es e = true) : swappedStores [.Tuple es k p] e env = pure none := by
  cases e with
  | Tuple vs k2 p2 =>
    have h : ((es.any fun t => match t with
      | .Name x _ => !decide (C.sc.names.lookup x = some .local)
      | _ => true) || !(es.length == 2 || es.length == 3) || vs.all (foldedForSure 8)) = true := h
    rw [Bool.or_eq_true, Bool.or_eq_true] at h
    show (do
      let some (ts, vs) := some (es, vs) | return none
      if !(ts.length == 2 || ts.length == 3) || vs.length != ts.length || env.blockKind != .function then return none
      if vs.any fun | .Starred .. => true | _ => false then return none
      let line := (ts.head?.map (·.pos.line)).getD 0
      let names := ts.filterMap fun
        | .Name id pos => if env.kindOf id == some .local && pos.line == line then some id else none
        | _ => none
      if names.length != ts.length || names.eraseDups.length != names.length then return none
      if vs.all (foldedForSure 8) then return none
      if vs.all (constantsAlone 8) then unsupported "assign.tuple-of-constant-expressions:order-of-the-stores"
      return some names : Sem (Option (List Str))) = pure none
    dsimp only
    by_cases c1 : (!(es.length == 2 || es.length == 3) || vs.length != es.length || env.blockKind != .function) = true
    · rw [if_pos c1]
    · rw [if_neg c1]
      by_cases c2 : (vs.any fun | .Starred .. => true | _ => false) = true
      · rw [if_pos c2]
      · rw [if_neg c2]
        generalize hl : (es.head?.map (·.pos.line)).getD 0 = line
        by_cases c3 : ((es.filterMap fun
          | .Name id pos => if env.kindOf id == some .local && pos.line == line then some id else none
          | _ => none).length != es.length || (es.filterMap fun
          | .Name id pos => if env.kindOf id == some .local && pos.line == line then some id else none
          | _ => none).eraseDups.length != (es.filterMap fun
          | .Name id pos => if env.kindOf id == some .local && pos.line == line then some id else none
          | _ => none).length) = true
        · rw [if_pos c3]
        · rw [if_neg c3]
          rcases h with (h | h) | h
          · exfalso
            apply c3
            rw [Bool.or_eq_true]
            left
            rw [List.any_eq_true] at h
            obtain ⟨t, ht, hx⟩ := h
            have : (es.filterMap fun
              | .Name id pos => if env.kindOf id == some .local && pos.line == line then some id else none
              | _ => none).length < es.length := by
              refine filterMap_short ht ?_
              cases t with
              | Name x px =>
                have hx : (!decide (C.sc.names.lookup x = some .local)) = true := hx
                rw [Bool.not_eq_true', decide_eq_false_iff_not, ← hs] at hx
                have : (env.kindOf x == some .local) = false := by
                  rw [beq_eq_false_iff_ne]
                  exact hx
                dsimp only
                rw [this]
                rfl
              | _ => rfl
            rw [bne_iff_ne]
            omega
          · exfalso
            apply c1
            rw [h]
            rfl
          · rw [if_pos h]
  | _ => rfl
def isStar : Expr → Bool
  | .Starred .. => true
  | _ => false
theorem isStar_no {a : Expr} (h : ∀ e p, a ≠ .Starred e p) : isStar a = false := by
  cases a <;> first | rfl | exact absurd rfl (h _ _)
theorem sws_par {C : Sc} {env : Env} (hs : env.scope = C.sc) (hk : env.scope.kind = .function) {x y : Str} {px py pt pt2 : Pos} {kt k2 : Nat} {a b : Expr} (h : parB C x y px py [a, b] = true) (ha : ∀ e p, a ≠ .Starred e p) (hb : ∀ e p, b ≠ .Starred e p) :
    swappedStores [.Tuple [.Name x px, .Name y py] kt pt] (.Tuple [a, b] k2 pt2) env = pure (some [x, y]) := by
  unfold parB at h
  simp only [Bool.and_eq_true, decide_eq_true_eq, Bool.not_eq_true'] at h
  obtain ⟨⟨⟨⟨⟨h1, h2⟩, h3⟩, h4⟩, h5⟩, h6⟩ := h
  have kx : (env.kindOf x == some .local) = true := by
    rw [beq_iff_eq]
    show env.scope.names.lookup x = some .local
    rw [hs]
    exact h1
  have ky : (env.kindOf y == some .local) = true := by
    rw [beq_iff_eq]
    show env.scope.names.lookup y = some .local
    rw [hs]
    exact h2
  have bk : (env.blockKind != ScopeKind.function) = false := by
    rw [blockKind_fn hk]
    rfl
  have hst : ([a, b].any isStar) = false := by
    show (isStar a || (isStar b || false)) = false
    rw [isStar_no ha, isStar_no hb]
    rfl
  have h4' : (py.line == px.line) = true := by
    rw [beq_iff_eq] at h4 ⊢
    exact h4.symm
  have hd : ([x, y] : List Str).eraseDups.length = 2 := by
    have : (y == x) = false := by
      rw [beq_eq_false_iff_ne]
      exact Ne.symm h3
    simp [List.eraseDups_cons, this]
  unfold swappedStores
  show (do
      if !(true) || false || env.blockKind != .function then return none
      if [a, b].any isStar then return none
      let names := [Expr.Name x px, Expr.Name y py].filterMap fun
        | .Name id pos => if env.kindOf id == some .local && pos.line == px.line then some id else none
        | _ => none
      if names.length != 2 || names.eraseDups.length != names.length then return none
      if [a, b].all (foldedForSure 8) then return none
      if [a, b].all (constantsAlone 8) then unsupported "assign.tuple-of-constant-expressions:order-of-the-stores"
      return some names : Sem (Option (List Str))) = pure (some [x, y])
  have hn : ([Expr.Name x px, Expr.Name y py].filterMap fun
        | .Name id pos => if env.kindOf id == some .local && pos.line == px.line then some id else none
        | _ => none) = [x, y] := by
    simp only [List.filterMap, kx, ky, h4', beq_self_eq_true, Bool.and_self, if_true]
  rw [hn, hst, h5, h6, bk]
  simp only [hd]
  rfl

section
variable {P : Prg} {G : GG} {cal : CallF} {k : Nat}
def SSt (P : Prg) (G : GG) (cal : CallF) (k : Nat) (a : Stm) : Prop := ∀ {X : Cx} {C : Sc} {E : XK} {s : Stmt} {Lo : Addr → Prop} {H : Hp} {cs : List Addr} {st : Sto} {env : En} {σ : L2.St} {D : Ends}, Ctx P G cal k X C E → PassesOwn (model X.prog X.w) X.A X.env X.xe →
  chkSt P a C s = true → Wf G.K Lo H cs st → REnv G (Lv Lo cs st) H cs env σ → PostS G Lo H cs st (execS cal a env st) D E → WS X s D σ H
def SSts (P : Prg) (G : GG) (cal : CallF) (k : Nat) (a : Stms) : Prop := ∀ {X : Cx} {C : Sc} {E : XK} {s : List Stmt} {Lo : Addr → Prop} {H : Hp} {cs : List Addr} {st : Sto} {env : En} {σ : L2.St} {D : Ends}, Ctx P G cal k X C E → PassesOwn (model X.prog X.w) X.A X.env X.xe →
  chkSts P a C s = true → Wf G.K Lo H cs st → REnv G (Lv Lo cs st) H cs env σ → PostS G Lo H cs st (execSs cal a env st) D E → WSs X s D σ H

theorem post_nw {n : Nw} {Lo : Addr → Prop} {H : Hp} {cs : List Addr} {st : Sto} {env : En} {Q : VK} {E : XK} (w : Wf G.K Lo H cs st) (hp : Post G Lo (rV G) H cs st (evalE cal (.nw n) env st) Q E) : Post G Lo (rN G Lo H) H cs st (evalN cal n env st) Q E := by
  unfold evalE at hp
  refine Post.bind (rel := rN G Lo H) hp fun x s1 v H1 cs1 e0 s w1 rv hp => ?_
  obtain ⟨p, vs, rfl, n1, n2, n3, n4⟩ := rv
  obtain ⟨w', d⟩ := new_data w n1 n3 n2 n4
  exact Post.done (rel := rV G) hp w' d
theorem post_cell {n : Nw} {Lo : Addr → Prop} {H : Hp} {cs : List Addr} {st : Sto} {env : En} {Q : VK} {E : XK} (w : Wf G.K Lo H cs st) (hp : Post G Lo (rV G) H cs st (evalE cal (.cellOf n) env st) Q E) : Post G Lo (rN G Lo H) H cs st (evalN cal n env st) Q E := by
  unfold evalE at hp
  refine Post.bind0 (rel := rN G Lo H) hp fun x s1 v H1 cs1 e0 s w1 rv hp => ?_
  obtain ⟨p, vs, rfl, n1, n2, n3, n4⟩ := rv
  obtain ⟨w', s'⟩ := new_cell w s n1 n3 n2 n4
  exact hp _ _ _ s' w' ⟨p, rfl, by rw [← w1.len]; simp⟩
theorem lc_inv {a : Ex} {C : Sc} {elt : Expr} {gs : List Comprehension} {scope : Scope} {pos : Pos} (h : chkE P a C (.ListComp elt gs scope pos) = true) : ∃ n, (a = .nw n ∨ a = .cellOf n) ∧ chkN P n C (.ListComp elt gs scope pos) = true := by
  cases a <;> first | exact ⟨_, .inl rfl, h⟩ | exact ⟨_, .inr rfl, h⟩ | cases h
theorem lcN_inv {a : Nw} {C : Sc} {elt : Expr} {gs : List Comprehension} {scope : Scope} {pos : Pos} (h : chkN P a C (.ListComp elt gs scope pos) = true) : ∃ tg src ifs b own, a = .comp tg src ifs b own := by
  cases a <;> first | exact ⟨_, _, _, _, _, rfl⟩ | cases h
/-- the end of an assignment to a name -/
theorem asg_end {i : Nat} {Lo : Addr → Prop} {H : Hp} {cs : List Addr} {st : Sto} {env : En} {σ : L2.St} {a : Ex} {D : Ends} {E : XK} (w : Wf G.K Lo H cs st) (r : REnv G (Lv Lo cs st) H cs env σ)
    (hp : PostS G Lo H cs st (execS cal (.asg (.nm i) a) env st) D E) : Post G Lo (rV G) H cs st (evalE cal a env st) (fun v H1 => D.nx (σ.set i (some v)) H1) E := by
  unfold execS at hp
  refine PostS.bind (rel := rV G) hp fun x s1 v H1 cs1 e0 s w1 rv hp => ?_
  obtain ⟨env1, e1, hp2⟩ := hp.opt
  clear hp
  unfold asgV at e1
  dsimp only at e1
  split at e1
  · cases e1
    exact hp2.next w1 ((r.kp s.kp s.pre).set rv i)
  · cases e1

theorem forL_cons {f : PyData → En → Sto → R (Out × Sto)} {g : Option Nat} {x : PyData} {r : List PyData} {env : En} {st : Sto} : forL f g (x :: r) env st = (match f x env st with
    | .ok (.nx env1, st1) => if guardOk g st st1 then forL f g r env1 st1 else .bad
    | .ok (.ct env1, st1) => if guardOk g st st1 then forL f g r env1 st1 else .bad
    | .ok (.bk env1, st1) => .ok (.nx env1, st1)
    | .ok (.rt x, st1) => .ok (.rt x, st1)
    | .exc c st1 => .exc c st1
    | .bad => .bad) := rfl

mutual
theorem sSt : ∀ a : Stm, SSt P G cal k a
  | .asg (.nm i) a => by
    intro c hpo h w r hp
    rename_i X C E s Lo H cs st env σ D
    unfold chkSt at h
    split at h
    · rename_i y py x pos
      simp only [Bool.and_eq_true, decide_eq_true_eq] at h
      obtain ⟨⟨⟨⟨h1, h2⟩, h3⟩, h4⟩, h5⟩ := h
      obtain ⟨l1, l2⟩ := loc_of c h2
      have hp := asg_end w r hp
      by_cases hc : notComp x = true
      · exact ⟨_, ps_set (by rw [c.N]; exact c.nd) (by rw [c.N]; exact h1) l1 pe_c (sw_none hc _ _ _) l2, sE a c h5 w r hp⟩
      · cases x with
        | ListComp elt gs scope p2 =>
          have h4 : ((decide (C.sc.names.lookup y = some .local) && (py.line == p2.line) && !(scope.names.any fun (n, k) => n == y && (k == .local || k == .cell))) || !decide (C.sc.names.lookup y = some .local)) = true := h4
          rw [Bool.or_eq_true] at h4
          rcases h4 with h4 | h4
          · simp only [Bool.and_eq_true, decide_eq_true_eq, Bool.not_eq_true'] at h4
            obtain ⟨⟨k1, k2⟩, k3⟩ := h4
            obtain ⟨n, hn, h6⟩ := lc_inv h5
            have hp2 : Post G Lo (rN G Lo H) H cs st (evalN cal n env st) (fun v H1 => D.nx (σ.set i (some v)) H1) E := by
              rcases hn with rfl | rfl
              · exact post_nw w hp
              · exact post_cell w hp
            obtain ⟨tg, src, ifs, b, own, rfl⟩ := lcN_inv h6
            unfold chkN at h6
            split at h6
            · rename_i heq
              cases heq
              simp only [Bool.and_eq_true, decide_eq_true_eq, List.all_eq_true] at h6
              obtain ⟨⟨⟨⟨⟨⟨⟨h0, q1⟩, q2⟩, q3⟩, q4⟩, q5⟩, q6⟩, q7⟩ := h6
              subst h0
              have bo : BlkOk X.N X.env.scope scope (ownP C own) := blkOk_by (by rw [c.N, c.sc]; exact q1)
              refine ⟨_, ps_setLc (own := ownP C own) c.calm (by rw [c.N]; exact c.nd) (by rw [c.N]; exact h1) (by rw [c.sc]; exact k1) (sw_true c.kind (by rw [c.sc]; exact k1) k2 k3) pi_c bo gB_ok tB_ok eB_ok (fold_set q5 _), ?_⟩
              rw [own_map]
              exact comp_core (sS src) (sIfs ifs) (sE b) c bo.kind q2 q3 q4 q6 q7 w r hp2
            · cases h6
          · have k1 : C.sc.names.lookup y ≠ some .local := by
              rw [Bool.not_eq_true', decide_eq_false_iff_not] at h4
              exact h4
            exact ⟨_, ps_set (by rw [c.N]; exact c.nd) (by rw [c.N]; exact h1) l1 pe_c (sw_cell (by rw [c.sc]; exact k1)) l2, sE a c h5 w r hp⟩
        | SetComp _ _ _ _ => cases h4
        | DictComp _ _ _ _ _ => cases h4
        | _ => exact absurd rfl hc
    · cases h
  | .asg (.tp ts) a => by
    intro c hpo h w r hp
    rename_i X C E s Lo H cs st env σ D
    unfold chkSt at h
    split at h
    · rename_i es kk p x pos
      simp only [Bool.and_eq_true] at h
      obtain ⟨⟨⟨h1, h2⟩, h3⟩, h4⟩ := h
      unfold execS at hp
      refine ⟨_, ps_asg pe_c pg_c (sw_tuple _ _ _ _ _ _) (sws_none c.sc h3) rfl, ?_⟩
      refine sE a c h4 w r (PostS.bind (rel := rV G) hp fun x s1 v H1 cs1 e0 s w1 rv hp => ?_)
      obtain ⟨env1, e1, hp2⟩ := hp.opt
      clear hp
      cases x with
      | d y => exact sTg (.tp ts) (e := .Tuple es kk p) c h1 e1 (r.kp s.kp s.pre) rv fun σ1 r1 _ _ => hp2.next w1 r1
      | _ => cases e1
    · cases h
  | .par2 i j a b => by
    intro c hpo h w r hp
    rename_i X C E s Lo H cs st env σ D
    unfold chkSt at h
    split at h
    · rename_i x px y py kk pt l rr k2 pt2 pos
      simp only [Bool.and_eq_true, decide_eq_true_eq] at h
      obtain ⟨⟨⟨⟨⟨h1, h2⟩, h3⟩, h4⟩, h5⟩, h6⟩ := h
      have h4' := h4
      unfold parB at h4'
      simp only [Bool.and_eq_true, decide_eq_true_eq] at h4'
      obtain ⟨⟨⟨⟨⟨x1, x2⟩, _⟩, _⟩, _⟩, _⟩ := h4'
      unfold execS at hp
      have sa : ∀ e p, l ≠ .Starred e p := fun e p z => by
        subst z
        rw [no_star] at h5
        cases h5
      have sb : ∀ e p, rr ≠ .Starred e p := fun e p z => by
        subst z
        rw [no_star] at h6
        cases h6
      refine ⟨_, ps_par c.calm (by rw [c.N]; exact c.nd) (by rw [c.N]; exact h1) (by rw [c.N]; exact h2) h3 (by rw [c.sc]; exact x1) (by rw [c.sc]; exact x2) (pa_cons pe_c (pa_cons pe_c pa_nil (chkE_ns h6 _ _)) (chkE_ns h5 _ _)) (sws_par c.sc c.kind h4 sa sb) rfl, ?_⟩
      refine sE a c h5 w r (PostS.bind (rel := rV G) hp fun x s1 v H1 cs1 e0 s w1 rv hp => ?_)
      refine sE b c h6 w1 (r.kp s.kp s.pre) (PostS.bind (rel := rV G) hp fun y s2 u H2 cs2 e1' s' w2 ru hp => ?_)
      dsimp only at hp
      split at hp
      · exact ⟨v, u, rfl, hp.next w2 ((((r.kp s.kp s.pre).kp s'.kp s'.pre).set (RVal.kp rv s'.kp s'.pre) i).set ru j)⟩
      · exact hp.elim
    · cases h
  | .expr a => by
    intro c hpo h w r hp
    rename_i X C E s Lo H cs st env σ D
    unfold chkSt at h
    split at h
    · rw [Bool.and_eq_true] at h
      unfold execS at hp
      refine ⟨_, ps_expr pe_c (sw_none h.1 _ _ _), ?_⟩
      refine sE a c h.2 w r (PostS.bind (rel := rV G) hp fun x s1 v H1 cs1 e0 s w1 rv hp => ?_)
      exact PostS.next hp w1 (r.kp s.kp s.pre)
    · cases h
  | .ret a => by
    intro c hpo h w r hp
    rename_i X C E s Lo H cs st env σ D
    unfold chkSt at h
    split at h
    · unfold execS at hp
      refine ⟨_, ps_ret pe_c, ?_⟩
      refine sE a c h w r (PostS.bind (rel := rV G) hp fun x s1 v H1 cs1 e0 s w1 rv hp => ?_)
      exact hp v H1 cs1 .refl w1 rv
    · cases h
  | .retN => by
    intro c hpo h w r hp
    rename_i X C E s Lo H cs st env σ D
    unfold chkSt at h
    split at h
    · exact ⟨_, ps_retN, hp .non H cs .refl w .non⟩
    · cases h
  | .ifs t a b => by
    intro c hpo h w r hp
    rename_i X C E s Lo H cs st env σ D
    unfold chkSt at h
    split at h
    · simp only [Bool.and_eq_true] at h
      obtain ⟨⟨h1, h2⟩, h3⟩ := h
      unfold execS at hp
      refine ⟨_, ps_if pt_c pss_c pss_c, ?_⟩
      refine sT t c h1 w r (PostS.bind (rel := rEq Bool) hp fun z s1 v H1 cs1 e0 s w1 rv hp => ?_)
      have rv : v = z := rv
      subst rv
      have r1 := r.kp s.kp s.pre
      cases v with
      | false =>
        rw [if_neg Bool.false_ne_true]
        exact sSts b c hpo h3 w1 r1 hp
      | true =>
        rw [if_pos rfl]
        exact sSts a c hpo h2 w1 r1 hp
    · cases h
  | .for_ tg src body => by
    intro c hpo h w r hp
    rename_i X C E s Lo H cs st env σ D
    unfold chkSt at h
    split at h
    · rename_i t it b pos
      simp only [Bool.and_eq_true] at h
      obtain ⟨⟨⟨h1, h2⟩, h3⟩, h4⟩ := h
      unfold execS at hp
      refine ⟨_, ps_for hpo c.calm pi_c pg_c pss_c (fold_set h1 _), ?_⟩
      refine sS src c h3 w r (PostS.bind (rel := rS G) hp fun p s1 J H1 cs1 e0 s w1 hA hp => ?_)
      obtain ⟨A, ok, a1⟩ := hA
      obtain ⟨xs, g⟩ := p
      dsimp only at hp ok
      refine ⟨fun i m σ Hc => m = xs.length - i ∧ i ≤ xs.length ∧ ∃ cc sc ec, Wf G.K Lo Hc cc sc ∧ REnv G (Lv Lo cc sc) Hc cc ec σ ∧ A (Lv Lo cc sc) Hc cc sc ∧ PostS G Lo Hc cc sc (forL (forF (execSs cal body) tg) g (xs.drop i) ec sc) D E,
        ⟨xs.length, by simp, Nat.zero_le _, cs1, s1, env, w1, r.kp s.kp s.pre, a1, by rw [List.drop_zero]; exact hp⟩, ?_⟩
      rintro i m σc Hc ⟨rfl, hi, cc, sc, ec, wc, rc, ac, hpc⟩
      by_cases hlt : ¬ i < xs.length
      · have hi' : i = xs.length := by omega
        subst hi'
        rw [List.drop_length] at hpc
        exact .inl ⟨ok.stop _ _ _ _ wc ac, PostS.next hpc wc rc⟩
      · have hlt : i < xs.length := Decidable.not_not.mp hlt
        have hd : xs.drop i = xs[i] :: xs.drop (i + 1) := List.drop_eq_getElem_cons hlt
        rw [hd, forL_cons] at hpc
        refine .inr ⟨ok.go i _ _ _ _ wc ac hlt, _, fun σ' H' q => ⟨xs.length - (i + 1), by omega, q⟩, fun x H' hy => ?_⟩
        obtain ⟨s2, w2, d2⟩ := ok.yld i _ _ _ _ x H' xs[i] wc ac hy (List.getElem?_eq_getElem hlt)
        have hpc := hpc.stp s2
        cases ha : asgT tg xs[i] ec with
        | none =>
          have : forF (execSs cal body) tg xs[i] ec sc = .bad := by unfold forF; rw [ha]
          rw [this] at hpc
          exact hpc.elim
        | some env1 =>
          have hf : forF (execSs cal body) tg xs[i] ec sc = execSs cal body env1 sc := by unfold forF; rw [ha]
          rw [hf] at hpc
          refine sTg tg c h2 ha (rc.kp s2.kp s2.pre) d2 fun σ2 r2 _ _ => ?_
          have again : ∀ {e3 : En} {s3 : Sto} {σ3 : L2.St} {H3 : Hp} {cs3 : List Addr}, Stp Lo H' cc sc H3 cs3 s3 → Wf G.K Lo H3 cs3 s3 → REnv G (Lv Lo cs3 s3) H3 cs3 e3 σ3 → PostS G Lo H' cc sc (if guardOk g sc s3 then forL (forF (execSs cal body) tg) g (xs.drop (i + 1)) e3 s3 else .bad) D E →
              (xs.length - (i + 1) = xs.length - (i + 1) ∧ i + 1 ≤ xs.length ∧ ∃ cc sc ec, Wf G.K Lo H3 cc sc ∧ REnv G (Lv Lo cc sc) H3 cc ec σ3 ∧ A (Lv Lo cc sc) H3 cc sc ∧ PostS G Lo H3 cc sc (forL (forF (execSs cal body) tg) g (xs.drop (i + 1)) ec sc) D E) :=
            fun {e3 s3 σ3 H3 cs3} q1 q2 q3 q4 => by
              split at q4
              · rename_i hg
                exact ⟨rfl, hlt, cs3, s3, e3, q2, q3, ok.st _ _ _ _ _ _ _ _ ac (s2.kp.trans q1.kp) (s2.pre.trans q1.pre) (gEq_of hg), q4.stp q1⟩
              · exact q4.elim
          refine sSts body c hpo h4 w2 r2 ?_
          cases hb : execSs cal body env1 sc with
          | bad => rw [hb] at hpc; exact hpc.elim
          | exc cx sx => rw [hb] at hpc; exact hpc
          | ok res =>
            obtain ⟨o, s3⟩ := res
            rw [hb] at hpc
            cases o with
            | nx e3 => exact fun σ3 H3 cs3 q1 q2 q3 => again q1 q2 q3 hpc
            | ct e3 => exact fun σ3 H3 cs3 q1 q2 q3 => again q1 q2 q3 hpc
            | bk e3 => exact hpc
            | rt z => exact hpc
    · cases h
  | .while_ n t body => by
    intro c hpo h w r hp
    rename_i X C E s Lo H cs st env σ D
    unfold chkSt at h
    split at h
    · rename_i tt b pos
      rw [Bool.and_eq_true] at h
      unfold execS at hp
      refine ⟨_, ps_while hpo pt_c pss_c, ?_⟩
      refine ⟨fun m σ Hc => ∃ cc sc ec, Wf G.K Lo Hc cc sc ∧ REnv G (Lv Lo cc sc) Hc cc ec σ ∧ PostS G Lo Hc cc sc (whileL (evalT cal t) (execSs cal body) m ec sc) D E, ⟨n, cs, st, env, w, r, hp⟩, ?_⟩
      rintro m σc Hc ⟨cc, sc, ec, wc, rc, hpc⟩
      cases m with
      | zero => exact hpc.elim
      | succ m =>
        unfold whileL at hpc
        refine sT t c h.1 wc rc ?_
        cases ht : evalT cal t ec sc with
        | bad => rw [ht] at hpc; exact hpc.elim
        | exc cx sx => rw [ht] at hpc; exact hpc
        | ok res =>
          obtain ⟨z, s0⟩ := res
          rw [ht] at hpc
          intro z' H1 cs1 s w1 hz
          have hz : z' = z := hz
          subst hz
          have r1 := rc.kp s.kp s.pre
          have hpc := hpc.stp s
          cases z' with
          | false =>
            rw [if_neg Bool.false_ne_true]
            exact PostS.next (env := ec) (E := E) hpc w1 r1
          | true =>
            rw [if_pos rfl]
            dsimp only at hpc
            refine ⟨fun σ' H' => ∃ cc sc ec, Wf G.K Lo H' cc sc ∧ REnv G (Lv Lo cc sc) H' cc ec σ' ∧ PostS G Lo H' cc sc (whileL (evalT cal t) (execSs cal body) m ec sc) D E, fun σ' H' q => ⟨m, Nat.lt_succ_self m, q⟩, ?_⟩
            refine sSts body c hpo h.2 w1 r1 ?_
            cases hb : execSs cal body ec s0 with
            | bad => rw [hb] at hpc; exact hpc.elim
            | exc cx sx => rw [hb] at hpc; exact hpc
            | ok res =>
              obtain ⟨o, s3⟩ := res
              rw [hb] at hpc
              cases o with
              | nx e3 => exact fun σ3 H3 cs3 q1 q2 q3 => ⟨cs3, s3, e3, q2, q3, PostS.stp hpc q1⟩
              | ct e3 => exact fun σ3 H3 cs3 q1 q2 q3 => ⟨cs3, s3, e3, q2, q3, PostS.stp hpc q1⟩
              | bk e3 => exact hpc
              | rt z => exact hpc
    · cases h
  | .brk => by
    intro c hpo h w r hp
    rename_i X C E s Lo H cs st env σ D
    unfold chkSt at h
    split at h
    · exact ⟨_, ps_break, hp σ H cs .refl w r⟩
    · cases h
  | .cont => by
    intro c hpo h w r hp
    rename_i X C E s Lo H cs st env σ D
    unfold chkSt at h
    split at h
    · exact ⟨_, ps_continue, hp σ H cs .refl w r⟩
    · cases h
  | .setIx a i e => by
    intro c hpo h w r hp
    rename_i X C E s Lo H cs st env σ D
    unfold chkSt at h
    split at h
    · rename_i o kx p x pos
      simp only [Bool.and_eq_true] at h
      obtain ⟨⟨⟨⟨h1, h2⟩, h3⟩, h4⟩, h5⟩ := h
      unfold execS at hp
      have ha : ∀ v, assign (.Subscript o kx p) X.env v = (do
          let ov ← holding [v] (eval o X.env)
          let iv ← holding [v, ov] (eval kx X.env)
          standAt p
          holding [v, ov, iv] (setItem ov iv v)
          release [v, ov, iv] []) := by
        intro v
        cases kx <;> first | rfl | cases h1
      refine ⟨_, ps_asg pe_c (pg_sub pe_c pe_c set_list ha) (sw_sub _ _ _ _ _ _) (sws_sub _ _ _ _ _) rfl, ?_⟩
      refine sE e c h3 w r (PostS.bind (rel := rV G) hp fun y s1 u H1 cs1 e0 s w1 ru hp => ?_)
      obtain ⟨yd, ey, hp2⟩ := hp.opt
      clear hp
      have := plain_some ey
      subst this
      have r1 := r.kp s.kp s.pre
      refine sE a c h4 w1 r1 (PostS.bind (rel := rV G) hp2 fun x s2 v H2 cs2 e1' s' w2 rv hp => ?_)
      have r2 := r1.kp s'.kp s'.pre
      refine sE i c h5 w2 r2 (PostS.bind (rel := rV G) hp fun z s3 q H3 cs3 e2' s'' w3 rq hp3 => ?_)
      have ru3 := Dv.kp s''.kp (Dv.kp s'.kp ru)
      have rv3 := RVal.kp rv s''.kp s''.pre
      have r3 := r2.kp s''.kp s''.pre
      dsimp only at hp3
      split at hp3
      · rename_i ci kk
        split at hp3
        · rename_i xs qx
          split at hp3
          · rename_i j hj
            have := dv_int rq
            subst this
            obtain ⟨a0, vs, rfl, e1, e2, e3, dd⟩ := cell_of w3 rv3 qx
            obtain ⟨w', s4⟩ := w3.write e1 e2 (dd.set ru3 j)
            refine ⟨a0, vs, _, j, rfl, rfl, e3, by rw [dd.length]; exact hj, ?_⟩
            exact hp3 _ _ _ s4 w' (r3.kp s4.kp s4.pre)
          · exact hp3.elim
        · exact hp3.elim
      · exact hp3.elim
    · cases h
  | .never => by
    intro c hpo h w r hp
    exact hp.elim
theorem sSts : ∀ a : Stms, SSts P G cal k a
  | .nil => by
    intro c hpo h w r hp
    rename_i X C E s Lo H cs st env σ D
    cases s with
    | cons _ _ => cases h
    | nil => exact ⟨_, pss_nil, PostS.next hp w r⟩
  | .cons a as => by
    intro c hpo h w r hp
    rename_i X C E s Lo H cs st env σ D
    cases s with
    | nil => cases h
    | cons x xs =>
      have h : (chkSt P a C x && chkSts P as C xs) = true := h
      rw [Bool.and_eq_true] at h
      unfold execSs at hp
      refine ⟨_, pss_cons ps_c pss_c, ?_⟩
      refine sSt a c hpo h.1 w r ?_
      cases hb : execS cal a env st with
      | bad => rw [hb] at hp; exact hp.elim
      | exc cx sx => rw [hb] at hp; exact hp
      | ok res =>
        obtain ⟨o, s3⟩ := res
        rw [hb] at hp
        cases o with
        | nx e3 => exact fun σ3 H3 cs3 q1 q2 q3 => sSts as c hpo h.2 q2 q3 (PostS.stp hp q1)
        | ct e3 => exact hp
        | bk e3 => exact hp
        | rt z => exact hp
end
end
end Py

set_option Elab.async false
set_option linter.all false
set_option maxRecDepth 100000
set_option maxHeartbeats 4000000
/-! IL: the interpreter is sound: defs, a law's end -/
namespace Py
open PySem PySem.Spec PyProof.Rows L2

/-- a def stands -/
structure FnAt (P : Prg) (G : GG) (K : PySem.W.Frag) (mg : Str → Option Value) (f : Nat) (F : Fn) : Prop where
  nm : mg (Str.ofString F.name) = some (.ref (G.fa f))
  ex : ∃ (st : Stmt) (fd : FuncData) (x : Str), FunD K x x (defArgs st) (defBody st) (defScope st) [] [] (G.fa f) fd ∧ chkF P F st = true ∧
    ∀ (kV doc pm : Value) (an : Option Addr) (cdv ct : Value) (us : List Value), us.length = (argNames (defArgs st)).length →
      bindArgs (PySem.W.fnOf x x (defArgs st) (defBody st) (defScope st) .none kV doc pm an cdv ct) ⟨us, []⟩ = pure ((argNames (defArgs st)).zip us)

theorem start_env {G : GG} {L : Addr → Prop} {H : Hp} {cs : List Addr} {N : List Str} {M : Nat} {vs : List V} {args : List Val} (r : RVals G L H cs args vs) (hM : N.length = M) (hl : vs.length ≤ M) :
    REnv G L H cs (args.map some ++ List.replicate (M - vs.length) none) (L2.start N vs) := by
  refine ⟨?_, fun i x e => ?_⟩
  · unfold L2.start
    simp only [List.length_append, List.length_map, List.length_replicate, r.length, hM]
  · have hi : i < args.length := by
      rcases Nat.lt_or_ge i args.length with h | h
      · exact h
      · rw [List.getElem?_append_right (by simpa using h), List.getElem?_replicate] at e
        split at e <;> cases e
    rw [List.getElem?_append_left (by simpa using hi), List.getElem?_map] at e
    have : ∀ {xs : List Val} {ws : List V} {i : Nat}, RVals G L H cs xs ws → (xs[i]?).map some = some (some x) → ∃ v, ws[i]? = some v ∧ RVal G L H cs x v := by
      intro xs
      induction xs with
      | nil => intro ws i _ e; simp at e
      | cons y ys ih =>
        intro ws i r e
        cases ws with
        | nil => exact r.elim
        | cons w ws =>
          cases i with
          | zero =>
            simp at e
            subst e
            exact ⟨w, rfl, r.1⟩
          | succ i => exact ih (i := i) r.2 (by simpa using e)
    obtain ⟨v, h1, h2⟩ := this r e
    refine ⟨v, ?_, h2⟩
    unfold L2.start
    rw [List.getElem?_append_left (by simpa using (List.getElem?_eq_some_iff.mp h1).1), List.getElem?_map, h1]
    rfl

section
variable {P : Prg} {G : GG} {prog : Program} {w : World} {K : PySem.W.Frag} {mg : Str → Option Value} {base : Heap}
theorem fn_ok' {cal : CallF} {k : Nat} (hK : G.K = K) (gl : Glob P G cal k prog w K mg base) {f : Nat} {F : Fn} {st : Stmt} {fd : FuncData} {x : Str} (FD : FunD K x x (defArgs st) (defBody st) (defScope st) [] [] (G.fa f) fd) (hc : chkF P F st = true)
    (hb : ∀ (kV doc pm : Value) (an : Option Addr) (cdv ct : Value) (us : List Value), us.length = (argNames (defArgs st)).length →
      bindArgs (PySem.W.fnOf x x (defArgs st) (defBody st) (defScope st) .none kV doc pm an cdv ct) ⟨us, []⟩ = pure ((argNames (defArgs st)).zip us)) :
    (argNames (defArgs st)).length = F.np ∧ Binds K fd (argNames (defArgs st)) [] ∧ FnOk prog w K mg base (L2.CX prog w) (k + 1) (G.fa f) fd (argNames (defArgs st))
      (SpF G (fun args st => if args.length = F.np then finish st.length (execSs cal F.body (args.map some ++ List.replicate (F.N.length - F.np) none) st) else .bad) F.np) := by
  unfold chkF at hc
  simp only [Bool.and_eq_true, decide_eq_true_eq] at hc
  obtain ⟨⟨⟨h1, h2⟩, h3⟩, h4⟩ := hc
  have S := scope_ok h3
  refine ⟨h2, FD.bindsN hb, FD.ok S (fun vs H Q E h => h.1.trans h2.symm) fun cdv A outer s H vs Q E hr h => ?_⟩
  obtain ⟨hl, Lo, cs, sto, args, wf, ra, hp⟩ := h
  dsimp only at hp
  rw [if_pos (ra.length.trans hl)] at hp
  have hpass : PassesOwn (model prog w) (A.deeper (envOfC x (defScope st) s.heap.objs.size (G.fa f) cdv)) (envOfC x (defScope st) s.heap.objs.size (G.fa f) cdv) (cxOf (L2.CX prog w) prog w K mg base (F.N.map Str.ofString) x (defScope st) (G.fa f) cdv A outer s H E).xe :=
    passes_of (X := cxOf (L2.CX prog w) prog w K mg base (F.N.map Str.ofString) x (defScope st) (G.fa f) cdv A outer s H E) (K := fun e s'' => L2.CX prog w outer H s E e s'') (E₁ := fun e s'' => L2.CX prog w outer H s E e s'') rfl
  have htk : Takes (cxOf (L2.CX prog w) prog w K mg base (F.N.map Str.ofString) x (defScope st) (G.fa f) cdv A outer s H E) (fun cls d _ H' => E cls d H') := takes_of rfl rfl rfl (E₁ := fun e s'' => L2.CX prog w outer H s E e s'') rfl
  have c : Ctx P G cal k (cxOf (L2.CX prog w) prog w K mg base (F.N.map Str.ofString) x (defScope st) (G.fa f) cdv A outer s H E) (fnSc F (defScope st)) E :=
    { K := hK.symm, N := rfl, sc := rfl, fn := rfl, kind := S.kind, calm := rfl, nd := S.nd, room := hr, thr := passes_call htk fun _ _ _ _ h => h, glob := gl }
  have hnp : F.np ≤ F.N.length := by
    have e := S.pre
    have := congrArg List.length e
    rw [List.length_take, h2, List.length_map] at this
    omega
  have r0 := start_env (N := F.N.map Str.ofString) (M := F.N.length) ra (by simp) (by rw [hl]; exact hnp)
  rw [hl] at r0
  refine sSts F.body c hpass h4 wf r0 ?_
  have hlen := wf.len
  have cut : ∀ {H' : Hp} {cs' : List Addr} {st' : Sto}, Stp Lo H cs sto H' cs' st' → Wf G.K Lo H' cs' st' → Stp Lo H cs sto H' cs (st'.take sto.length) ∧ Wf G.K Lo H' cs (st'.take sto.length) ∧ Kp (Lv Lo cs' st') H' (Lv Lo cs (st'.take sto.length)) H' := fun {H' cs' st'} q1 q2 => by
    obtain ⟨w1, k1⟩ := q2.take sto.length
    have e : cs'.take sto.length = cs := by
      obtain ⟨t, rfl⟩ := q1.pre
      rw [← hlen, List.take_left]
    rw [e] at w1 k1
    exact ⟨⟨q1.kp.trans k1, q1.out, List.prefix_rfl⟩, w1, k1⟩
  cases hb : execSs cal F.body (args.map some ++ List.replicate (F.N.length - F.np) none) sto with
  | bad => rw [hb] at hp; exact hp.elim
  | exc cx sx =>
    rw [hb] at hp
    intro H' cs' q1 q2
    obtain ⟨a1, a2, _⟩ := cut q1 q2
    exact hp _ _ a1 a2
  | ok res =>
    obtain ⟨o, sx⟩ := res
    rw [hb] at hp
    cases o with
    | nx e =>
      intro σ' H' cs' q1 q2 q3
      obtain ⟨a1, a2, a3⟩ := cut q1 q2
      exact hp .non _ _ a1 a2 .non
    | rt x =>
      cases x with
      | d y =>
        intro v H' cs' q1 q2 q3
        obtain ⟨a1, a2, a3⟩ := cut q1 q2
        exact hp v _ _ a1 a2 (Dv.kp a3 q3)
      | cell i => exact hp
      | fn i => exact hp
      | fz xs => exact hp
    | bk e => exact hp.elim
    | ct e => exact hp.elim
theorem fn_ok {cal : CallF} {k : Nat} (hK : G.K = K) (gl : Glob P G cal k prog w K mg base) {f : Nat} {F : Fn} (hF : P.fs[f]? = some F) (A : FnAt P G K mg f F) :
    ∃ fd ps, ps.length = F.np ∧ Binds K fd ps [] ∧ FnOk prog w K mg base (L2.CX prog w) (k + 1) (G.fa f) fd ps
      (SpF G (fun args st => if args.length = F.np then finish st.length (execSs cal F.body (args.map some ++ List.replicate (F.N.length - F.np) none) st) else .bad) F.np) := by
  obtain ⟨st, fd, x, FD, hc, hb⟩ := A.ex
  exact ⟨fd, _, fn_ok' hK gl FD hc hb⟩
theorem glob_all (hK : G.K = K) (hfn : ∀ (f : Nat) F, P.fs[f]? = some F → FnAt P G K mg f F) (hco : ∀ x c, (x, c) ∈ P.consts → ∃ u v, mg (Str.ofString x) = some u ∧ RelV v u ∧ ∀ H L, Dv K H L v c) (hbl : ∀ x ∈ bNames, mg x = none) :
    ∀ k, Glob P G (callF P.fs k) k prog w K mg base
  | 0 => ⟨fun f F hF => by
      have A := hfn f F hF
      obtain ⟨st, fd, x, FD, hc, hb⟩ := A.ex
      unfold chkF at hc
      simp only [Bool.and_eq_true, decide_eq_true_eq] at hc
      refine ⟨A.nm, FD.kp, fd, argNames (defArgs st), hc.1.1.2, FD.bindsN hb, ⟨fun vs H Q E h => h.1.trans hc.1.1.2.symm, fun _ _ _ _ _ _ _ _ _ _ _ _ _ h => ?_⟩⟩
      obtain ⟨_, _, _, _, _, _, _, hp⟩ := h
      exact hp.elim, hco, hbl⟩
  | k + 1 => ⟨fun f F hF => by
      have A := hfn f F hF
      obtain ⟨fd, ps, a1, a2, a3⟩ := fn_ok hK (glob_all hK hfn hco hbl k) hF A
      obtain ⟨st, fd', x, FD, _⟩ := A.ex
      refine ⟨A.nm, FD.kp, fd, ps, a1, a2, a3.imp fun vs H Q E h => ?_⟩
      obtain ⟨b1, Lo, cs, sto, args, b2, b3, b4⟩ := h
      refine ⟨b1, Lo, cs, sto, args, b2, b3, ?_⟩
      have : callF P.fs (k + 1) f args sto = if args.length = F.np then finish sto.length (execSs (callF P.fs k) F.body (args.map some ++ List.replicate (F.N.length - F.np) none) sto) else .bad := by
        show (match P.fs[f]? with | some F => _ | none => _) = _
        rw [hF]
      rw [this] at b4
      exact b4, hco, hbl⟩
end
end Py

set_option Elab.async false
set_option linter.all false
set_option maxRecDepth 100000
set_option maxHeartbeats 4000000
/-! IR: a law's end, for all laws -/
namespace Py
open PySem PySem.Spec PyProof.Rows L2

def fAdOf (K : PySem.W.Frag) (fs : List Fn) : GG := ⟨K, fun _ => 0, fun f => He.ga K (Str.ofString (fs.getD f ⟨"", 0, [], .nil, false⟩).name)⟩
theorem fz_of {K : PySem.W.Frag} {H : Hp} {a : Addr} {vs : List V} (o : Only H) (h : SqL K H a vs) : FzL K H a vs := by
  rcases h with (h | ⟨o', h⟩) | h
  · rcases o a with e | ⟨o', xs, e⟩
    · rw [e] at h
      cases h
    · rw [e] at h
      cases h
  · exact .inl ⟨o', h⟩
  · exact .inr h
theorem dv_ints {K : PySem.W.Frag} {H : Hp} {L : Addr → Prop} : ∀ ns : List Int, DvAll K H L (ns.map V.int) (ns.map PyData.int)
  | [] => .nil
  | n :: ns => .cons (.int n) (dv_ints ns)
/-- the law's promise from what the interpreter answers -/
theorem sp_of {G : GG} {cal : List Val → Sto → R (Val × Sto)} {H : Hp} {a : Addr} {ns : List Int} (o : Only H) (h : SqL G.K H a (ns.map V.int)) (e : ∃ st, cal [.fz (ns.map PyData.int)] [] = .ok (.d (.bool true), st)) :
    SpF G cal 1 [.ref a] H (fun v _ => v = .bl true) fun _ _ _ => False := by
  obtain ⟨st, e⟩ := e
  refine ⟨rfl, fun _ => False, [], [], [.fz (ns.map PyData.int)], ⟨rfl, .nil, fun a h => (nomatch h), fun a h => h.elim, fun i a c h _ => (nomatch h)⟩, ⟨⟨a, _, rfl, fz_of o h, dv_ints ns⟩, trivial⟩, ?_⟩
  rw [e]
  intro v H' cs' _ _ r
  cases r
  rfl
/-- a def from the head's data -/
def defOf (st : Stmt) (x : Str) : He.DefD := ⟨(x, none), x, x, defArgs st, defBody st, defScope st, [], []⟩
def bindB (st : Stmt) (x : Str) : Prop := ∀ (kV doc pm : Value) (an : Option Addr) (cdv ct : Value) (us : List Value), us.length = (argNames (defArgs st)).length →
      bindArgs (PySem.W.fnOf x x (defArgs st) (defBody st) (defScope st) .none kV doc pm an cdv ct) ⟨us, []⟩ = pure ((argNames (defArgs st)).zip us)
theorem fnAt_of {P : Prg} {K : PySem.W.Frag} {h : Heap} {mg : Str → Option Value} {fa : List He.Fa} {fn : List He.DefD} {f : Nat} {F : Fn} {st : Stmt} {x : Str} (X : K.In h) (N : h.Ns mainGlobals mg) (c : He.SaysD fa fn K)
    (hF : P.fs[f]? = some F) (hx : Str.ofString F.name = x) (hfa : He.Fa.glo x ∈ fa) (hfn : defOf st x ∈ fn) (hc : chkF P F st = true) (hb : bindB st x) : FnAt P (fAdOf K P.fs) K mg f F := by
  subst hx
  have e : (fAdOf K P.fs).fa f = He.ga K (Str.ofString F.name) := by
    show He.ga K (Str.ofString (P.fs.getD f _).name) = _
    rw [List.getD_eq_getElem?_getD, hF]
    rfl
  obtain ⟨fd, FD⟩ := He.SaysD.defs c hfn
  refine ⟨by rw [e]; exact He.glo_ok X N (He.SaysD.facts c hfa), st, fd, Str.ofString F.name, by rw [e]; exact FD, hc, hb⟩
theorem cx_false (prog : Program) (w : World) (H : Hp) (s : Shared) (e : Value) (s' : Shared) : L2.CX prog w [] H s (fun _ _ _ => False) e s' → False := by
  intro h
  obtain ⟨_, _, _, _, _, _, _, _, _, _, _, _, h⟩ := h
  exact h
/-- a law's walk -/
theorem walk_ofW {l : PySem.W.OpenLaw} {n k : Nat} {q : Program} {loose : List Str} {XP : (Str → Option Value) → Heap → Prop} {YP : World → Heap → Prop} {d : DefRec} {x : Str}
    (hn : l.most = some n) (hn2 : n ≤ sizeLine) (hdf : d.params.defaults = []) (hr : Room k callerA)
    (F : ∀ (w : World) (mg : Str → Option Value) (fa : Addr) (h : Heap), YP w h → h.Ns mainGlobals mg → mg d.name = some (.ref fa) →
      ∃ (K : PySem.W.Frag) (fd : FuncData) (sp : Sp), K.In h ∧ (∀ (s : Shared) (u : Value), BindsTo s fd ⟨[u], []⟩ [(x, u)]) ∧
        (∀ (H : Hp) (a : Addr) (ns : List Int), ns.length ≤ n → Only H → SqL K H a (ns.map V.int) → sp [.ref a] H (fun v _ => v = .bl true) fun _ _ _ => False) ∧
        ∀ base : Heap, K.In base → base.Ns mainGlobals mg → FnOk l.prog w K mg base (L2.CX l.prog w) k fa fd [x] sp) :
    PySem.W.WalkO q loose XP YP l.row.toRowW d [] (fun f vs => PySem.call f vs) := by
  refine Att.attach_call hn hdf fun w s₀ s₁ mg mb fa o pm cd doc a vs ns G Y ho hd hcd hmg hobj hints hlen hg => ?_
  obtain ⟨K, fd, sp, KX, hb, hsp, hF⟩ := F w mg fa _ Y G.T.g hmg
  exact law_call KX G.T.g G.T.b G.T.builtins G.T.nolimit hg hobj hints (Nat.le_trans hlen hn2) hr hF hb (fun H hO hS => hsp H a ns hlen hO hS) fun H e s' => cx_false l.prog w H s₁ e s'
theorem end_of {prg : Prg} {prog : Program} {w : World} {K : PySem.W.Frag} {h : Heap} {mg : Str → Option Value} {f : Nat} {F : Fn} {k : Nat} {fa : Addr} {x y : Str} {n : Nat} (KX : K.In h) (hmg : mg y = some (.ref fa))
    (hF : prg.fs[f]? = some F) (hnm : Str.ofString F.name = y) (hx : F.N.head? = some (x.toString)) (hox : Str.ofString x.toString = x) (hnp : F.np = 1)
    (hfn : ∀ (f : Nat) F, prg.fs[f]? = some F → FnAt prg (fAdOf K prg.fs) K mg f F) (hco : ∀ x d, (x, d) ∈ prg.consts → ∃ u v, mg (Str.ofString x) = some u ∧ RelV v u ∧ ∀ H L, Dv K H L v d) (hbl : ∀ x ∈ bNames, mg x = none)
    (main : ∀ ns : List Int, ns.length ≤ n → ∃ st, callF prg.fs (k + 1) f [.fz (ns.map PyData.int)] [] = .ok (.d (.bool true), st)) :
    ∃ (K : PySem.W.Frag) (fd : FuncData) (sp : Sp), K.In h ∧ (∀ (s : Shared) (u : Value), BindsTo s fd ⟨[u], []⟩ [(x, u)]) ∧
        (∀ (H : Hp) (a : Addr) (ns : List Int), ns.length ≤ n → Only H → SqL K H a (ns.map V.int) → sp [.ref a] H (fun v _ => v = .bl true) fun _ _ _ => False) ∧
        ∀ base : Heap, K.In base → base.Ns mainGlobals mg → FnOk prog w K mg base (L2.CX prog w) (k + 1) fa fd [x] sp := by
  have A := hfn f F hF
  have e := A.nm
  rw [hnm, hmg] at e
  have e : fa = (fAdOf K prg.fs).fa f := by
    have := Option.some.inj e
    exact Value.ref.inj this
  subst e
  obtain ⟨st, fd, z, FD, hc, hb⟩ := A.ex
  have hc' := hc
  unfold chkF at hc'
  simp only [Bool.and_eq_true, decide_eq_true_eq] at hc'
  obtain ⟨⟨⟨h1, h2⟩, h3⟩, h4⟩ := hc'
  have hps : argNames (defArgs st) = [x] := by
    have S := scope_ok h3
    have p := S.pre
    rw [h2, hnp] at p
    cases hN : F.N with
    | nil => rw [hN] at hx; cases hx
    | cons a r =>
      rw [hN] at hx p
      cases hx
      have p : [Str.ofString x.toString] = argNames (defArgs st) := p
      rw [← p, hox]
  have b := FunD.bindsA (ps := argNames (defArgs st)) FD hb
  rw [hps] at b
  refine ⟨K, fd, SpF (fAdOf K prg.fs) (callF prg.fs (k + 1) f) 1, KX, fun s u => b s [u] rfl, fun H a ns hl hO hS => sp_of (G := fAdOf K prg.fs) hO hS (main ns hl), fun base _ _ => ?_⟩
  obtain ⟨_, _, a3⟩ := fn_ok' (G := fAdOf K prg.fs) (prog := prog) (w := w) (base := base) rfl (glob_all (G := fAdOf K prg.fs) rfl hfn hco hbl k) FD hc hb
  rw [hps, hnp] at a3
  refine a3.imp fun vs H Q E h => ?_
  obtain ⟨b1, Lo, cs, sto, args, b2, b3, b4⟩ := h
  refine ⟨b1, Lo, cs, sto, args, b2, b3, ?_⟩
  have : callF prg.fs (k + 1) f args sto = if args.length = F.np then finish sto.length (execSs (callF prg.fs k) F.body (args.map some ++ List.replicate (F.N.length - F.np) none) sto) else .bad := by
    show (match prg.fs[f]? with | some F => _ | none => _) = _
    rw [hF]
  rw [this, hnp] at b4
  exact b4
end Py

set_option Elab.async false
set_option linter.all false
set_option maxRecDepth 100000
/-! P52: the defs of law_k52_whole_counts for the interpreter (printed by gen.py) -/
namespace K52
open Py PySem
def F_is_whole : Fn := { name := "is_whole", np := 3, N := ["value", "low", "high"], body := (.cons (.ret (.and (.cons (.isi (.v 0) .int) (.cons (.nt (.isi (.v 0) .bool)) (.cons (.chain .le .le (.v 1) (.v 0) (.v 2)) .nil))))) .nil) }
def F_need_whole : Fn := { name := "need_whole", np := 3, N := ["value", "low", "high"], body := (.cons (.ifs (.nt (.e (.call 0 (.cons (.v 0) (.cons (.v 1) (.cons (.v 2) .nil)))))) (.cons .never .nil) .nil) .nil) }
def F_is_tuple_of : Fn := { name := "is_tuple_of", np := 3, N := ["value", "low", "high"], body := (.cons (.ret (.and (.cons (.isi (.v 0) .tuple) (.cons (.chain .le .le (.v 1) (.bi .len (.cons (.v 0) .nil)) (.v 2)) .nil)))) .nil) }
def F_are_wholes : Fn := { name := "are_wholes", np := 4, N := ["value", "many", "low", "high", "one"], body := (.cons (.ret (.and (.cons (.call 2 (.cons (.v 0) (.cons (.v 1) (.cons (.v 1) .nil)))) (.cons (.bi .all (.cons (.nw (.comp (.nm 4) (.ex (.v 0)) .nil (.call 0 (.cons (.v 4) (.cons (.v 2) (.cons (.v 3) .nil)))) [4])) .nil)) .nil)))) .nil) }
def F_are_counts : Fn := { name := "are_counts", np := 1, N := ["value"], body := (.cons (.ret (.and (.cons (.call 2 (.cons (.v 0) (.cons (.lit (.int 1)) (.cons (.gl "COLOURS" (.int 8)) .nil)))) (.cons (.call 3 (.cons (.v 0) (.cons (.bi .len (.cons (.v 0) .nil)) (.cons (.lit (.int 0)) (.cons (.gl "GREAT" (.int 1000000000000000000)) .nil))))) .nil)))) .nil) }
def F_need_both : Fn := { name := "need_both", np := 3, N := ["first", "second", "k"], body := (.cons (.expr (.call 6 (.cons (.v 0) (.cons (.v 1) .nil)))) (.cons (.expr (.call 1 (.cons (.v 2) (.cons (.lit (.int 0)) (.cons (.gl "GREAT" (.int 1000000000000000000)) .nil))))) .nil)) }
def F_need_counts : Fn := { name := "need_counts", np := 2, N := ["first", "second"], body := (.cons (.ifs (.or (.cons (.nt (.e (.call 4 (.cons (.v 0) .nil)))) (.cons (.nt (.e (.call 4 (.cons (.v 1) .nil)))) (.cons (.e (.cmp .ne (.bi .len (.cons (.v 0) .nil)) (.bi .len (.cons (.v 1) .nil)))) .nil)))) (.cons .never .nil) .nil) .nil) }
def F_parting_in : Fn := { name := "parting_in", np := 3, N := ["first", "second", "k", "colour", "one", "other"], body := (.cons (.for_ (.tp (.cons (.nm 3) (.cons (.tp (.cons (.nm 4) (.cons (.nm 5) .nil))) .nil))) (.enumz (.v 0) (.v 1)) (.cons (.ifs (.and (.cons (.e (.cmp .ne (.v 4) (.v 5))) (.cons (.e (.cmp .lt (.bi .min2 (.cons (.v 4) (.cons (.v 5) .nil))) (.v 2))) .nil))) (.cons (.ret (.v 3)) .nil) .nil) .nil)) (.cons (.ret (.lit .none)) .nil)) }
def F_counts_keep_up : Fn := { name := "counts_keep_up", np := 3, N := ["first", "second", "k"], body := (.cons (.expr (.call 5 (.cons (.v 0) (.cons (.v 1) (.cons (.v 2) .nil))))) (.cons (.ret (.isN (.call 7 (.cons (.v 0) (.cons (.v 1) (.cons (.v 2) .nil)))))) .nil)) }
def F_parting_colour : Fn := { name := "parting_colour", np := 3, N := ["first", "second", "k"], body := (.cons (.expr (.call 5 (.cons (.v 0) (.cons (.v 1) (.cons (.v 2) .nil))))) (.cons (.ret (.call 7 (.cons (.v 0) (.cons (.v 1) (.cons (.v 2) .nil))))) .nil)) }
def F_fewest_counts : Fn := { name := "fewest_counts", np := 2, N := ["first", "second", "some", "one", "other"], body := (.cons (.expr (.call 6 (.cons (.v 0) (.cons (.v 1) .nil)))) (.cons (.asg (.nm 2) (.nw (.comp (.tp (.cons (.nm 3) (.cons (.nm 4) .nil))) (.zip (.v 0) (.v 1)) (.cons (.e (.cmp .ne (.v 3) (.v 4))) .nil) (.bin .add (.bi .min2 (.cons (.v 3) (.cons (.v 4) .nil))) (.lit (.int 1))) [3, 4]))) (.cons (.ret (.minD (.v 2) (.lit .none))) .nil))) }
def F_count_kinds : Fn := { name := "count_kinds", np := 2, N := ["colours", "k", "found", "colour"], body := (.cons (.expr (.call 1 (.cons (.v 0) (.cons (.lit (.int 1)) (.cons (.gl "COLOURS" (.int 8)) .nil))))) (.cons (.expr (.call 1 (.cons (.v 1) (.cons (.lit (.int 0)) (.cons (.gl "GREAT" (.int 1000000000000000000)) .nil))))) (.cons (.asg (.nm 2) (.lit (.int 1))) (.cons (.for_ (.nm 3) (.rng1 (.v 0)) (.cons (.asg (.nm 2) (.bin .mul (.v 2) (.bin .add (.v 1) (.lit (.int 1))))) .nil)) (.cons (.ret (.v 2)) .nil))))) }
def F__law_cup : Fn := { name := "_law_cup", np := 1, N := ["script", "cell"], body := (.cons (.asg (.nm 1) (.bi .abs (.cons (.ix (.bin .add (.nw (.ofSeq (.v 0))) (.nw (.disp (.cons (.lit (.int 0)) .nil)))) (.lit (.int 0))) .nil))) (.cons (.ret (.cellOf (.disp (.cons (.ite (.e (.cmp .ge (.v 1) (.bin .pow (.lit (.int 10)) (.lit (.int 18))))) (.bin .fdiv (.v 1) (.lit (.int 163))) (.lit (.int 0))) (.cons (.bin .add (.bin .mod (.bi .int (.cons (.bin .add (.bin .mul (.v 1) (.lit (.int 419))) (.lit (.int 6121))) .nil)) (.lit (.int 1904129609))) (.lit (.int 269))) .nil))))) .nil)) }
def F__law_roll : Fn := { name := "_law_roll", np := 2, N := ["cup", "many", "found", "deep"], body := (.cons (.ifs (.e (.cmp .gt (.ix (.v 0) (.lit (.int 0))) (.lit (.int 0)))) (.cons (.asg (.nm 2) (.bin .mod (.bi .int (.cons (.ix (.v 0) (.lit (.int 0))) .nil)) (.v 1))) (.cons (.setIx (.v 0) (.lit (.int 0)) (.bin .fdiv (.ix (.v 0) (.lit (.int 0))) (.v 1))) (.cons (.ret (.v 2)) .nil))) .nil) (.cons (.setIx (.v 0) (.lit (.int 1)) (.bin .mod (.bi .int (.cons (.bin .add (.bin .mul (.ix (.v 0) (.lit (.int 1))) (.lit (.int 29251))) (.lit (.int 9811))) .nil)) (.lit (.int 2147483543)))) (.cons (.asg (.nm 3) (.bin .mod (.bi .int (.cons (.bin .mul (.ix (.v 0) (.lit (.int 1))) (.bin .add (.ix (.v 0) (.lit (.int 1))) (.lit (.int 349)))) .nil)) (.lit (.int 2147483587)))) (.cons (.ret (.bin .mod (.bi .int (.cons (.bin .fdiv (.v 3) (.lit (.int 947))) .nil)) (.v 1))) .nil)))) }
def F__law_some : Fn := { name := "_law_some", np := 2, N := ["cup", "things"], body := (.cons (.ret (.ix (.v 1) (.call 13 (.cons (.v 0) (.cons (.bi .len (.cons (.v 1) .nil)) .nil))))) .nil) }
def F__law_sort : Fn := { name := "_law_sort", np := 1, N := ["value"], body := (.cons (.ifs (.or (.cons (.e (.isN (.v 0))) (.cons (.e (.isi (.v 0) .bool)) .nil))) (.cons (.ret (.ite (.e (.isN (.v 0))) (.lit (.int 0)) (.lit (.int 1)))) .nil) .nil) (.cons (.ifs (.or (.cons (.e (.isi (.v 0) .int)) (.cons (.e (.isi (.v 0) .str)) .nil))) (.cons (.ret (.ite (.e (.isi (.v 0) .int)) (.lit (.int 2)) (.lit (.int 3)))) .nil) .nil) (.cons (.ret (.ite (.e (.isi (.v 0) .tuple)) (.lit (.int 4)) (.ite (.e (.isi (.v 0) .list)) (.lit (.int 5)) (.lit (.int 6))))) .nil))) }
def F__law_like : Fn := { name := "_law_like", np := 2, N := ["one", "other", "sort", "first", "second"], body := (.cons (.asg (.nm 2) (.call 15 (.cons (.v 1) .nil))) (.cons (.ifs (.or (.cons (.e (.cmp .ne (.call 15 (.cons (.v 0) .nil)) (.v 2))) (.cons (.e (.cmp .eq (.v 2) (.lit (.int 6)))) .nil))) (.cons (.ret (.lit (.bool false))) .nil) .nil) (.cons (.ifs (.e (.cmp .isin (.v 2) (.tup (.cons (.lit (.int 4)) (.cons (.lit (.int 5)) .nil))))) (.cons (.ret (.and (.cons (.cmp .eq (.bi .len (.cons (.v 0) .nil)) (.bi .len (.cons (.v 1) .nil))) (.cons (.cmp .eq (.nw (.comp (.tp (.cons (.nm 3) (.cons (.nm 4) .nil))) (.zip (.v 0) (.v 1)) (.cons (.nt (.e (.call 16 (.cons (.v 3) (.cons (.v 4) .nil))))) .nil) (.lit (.int 1)) [3, 4])) (.nw (.disp .nil))) .nil)))) .nil) .nil) (.cons (.ret (.cmp .eq (.v 0) (.v 1))) .nil)))) }
def F__law_keep : Fn := { name := "_law_keep", np := 3, N := ["first", "second", "k", "one", "other"], body := (.cons (.ret (.cmp .eq (.nw (.comp (.tp (.cons (.nm 3) (.cons (.nm 4) .nil))) (.zip (.v 0) (.v 1)) (.cons (.and (.cons (.e (.cmp .ne (.v 3) (.v 4))) (.cons (.or (.cons (.e (.cmp .lt (.v 3) (.v 2))) (.cons (.e (.cmp .lt (.v 4) (.v 2))) .nil))) .nil))) .nil) (.lit (.int 1)) [3, 4])) (.nw (.disp .nil)))) .nil) }
def F__law_right : Fn := { name := "_law_right", np := 1, N := ["cup", "colours", "most", "first", "second", "unlike", "fewest", "k", "parts", "told", "colour", "own"], body := (.cons (.asg (.tp (.cons (.nm 1) (.cons (.nm 2) .nil))) (.tup (.cons (.bin .add (.lit (.int 1)) (.call 13 (.cons (.v 0) (.cons (.lit (.int 8)) .nil)))) (.cons (.call 14 (.cons (.v 0) (.cons (.nw (.disp (.cons (.lit (.int 1)) (.cons (.lit (.int 4)) (.cons (.bin .pow (.lit (.int 10)) (.lit (.int 18))) .nil))))) .nil))) .nil)))) (.cons (.asg (.nm 3) (.bi .tuple (.cons (.nw (.comp (.nm 10) (.rng1 (.v 1)) .nil (.call 13 (.cons (.v 0) (.cons (.bin .add (.v 2) (.lit (.int 1))) .nil))) [10])) .nil))) (.cons (.asg (.nm 4) (.bi .tuple (.cons (.nw (.comp (.nm 11) (.ex (.v 3)) .nil (.call 14 (.cons (.v 0) (.cons (.nw (.disp (.cons (.v 11) (.cons (.v 11) (.cons (.bi .max2 (.cons (.lit (.int 0)) (.cons (.bin .sub (.v 11) (.lit (.int 1))) .nil))) (.cons (.bi .min2 (.cons (.bin .pow (.lit (.int 10)) (.lit (.int 18))) (.cons (.bin .add (.v 11) (.lit (.int 1))) .nil))) (.cons (.call 13 (.cons (.v 0) (.cons (.bin .add (.v 2) (.lit (.int 1))) .nil))) .nil))))))) .nil))) [11])) .nil))) (.cons (.asg (.nm 5) (.nw (.comp (.nm 10) (.rng1 (.v 1)) (.cons (.e (.cmp .ne (.ix (.v 3) (.v 10)) (.ix (.v 4) (.v 10)))) .nil) (.v 10) [10]))) (.cons (.asg (.nm 6) (.ite (.e (.cmp .ne (.v 5) (.nw (.disp .nil)))) (.bi .min1 (.cons (.nw (.comp (.nm 10) (.ex (.v 5)) .nil (.bin .add (.bi .min2 (.cons (.ix (.v 3) (.v 10)) (.cons (.ix (.v 4) (.v 10)) .nil))) (.lit (.int 1))) [10])) .nil)) (.lit .none))) (.cons (.ifs (.nt (.e (.call 16 (.cons (.nw (.disp (.cons (.call 10 (.cons (.v 3) (.cons (.v 4) .nil))) (.cons (.call 10 (.cons (.v 4) (.cons (.v 3) .nil))) .nil)))) (.cons (.bin .mul (.nw (.disp (.cons (.v 6) .nil))) (.lit (.int 2))) .nil))))) (.cons (.ret (.lit (.bool false))) .nil) .nil) (.cons (.for_ (.nm 7) (.ex (.tup (.cons (.lit (.int 0)) (.cons (.lit (.int 1)) (.cons (.call 13 (.cons (.v 0) (.cons (.bin .add (.v 2) (.lit (.int 1))) .nil))) (.cons (.ite (.and (.cons (.e (.notN (.v 6))) (.cons (.e (.cmp .le (.v 6) (.bin .pow (.lit (.int 10)) (.lit (.int 18))))) .nil))) (.v 6) (.lit (.int 0))) (.cons (.ite (.e (.notN (.v 6))) (.bin .sub (.v 6) (.lit (.int 1))) (.bin .pow (.lit (.int 10)) (.lit (.int 18)))) .nil))))))) (.cons (.asg (.nm 8) (.nw (.comp (.nm 10) (.ex (.v 5)) (.cons (.e (.cmp .lt (.bi .min2 (.cons (.ix (.v 3) (.v 10)) (.cons (.ix (.v 4) (.v 10)) .nil))) (.v 7))) .nil) (.v 10) [10]))) (.cons (.asg (.nm 9) (.nw (.disp (.cons (.call 8 (.cons (.v 3) (.cons (.v 4) (.cons (.v 7) .nil)))) (.cons (.call 9 (.cons (.v 3) (.cons (.v 4) (.cons (.v 7) .nil)))) (.cons (.call 8 (.cons (.v 4) (.cons (.v 3) (.cons (.v 7) .nil)))) .nil)))))) (.cons (.ifs (.nt (.e (.call 16 (.cons (.v 9) (.cons (.nw (.disp (.cons (.call 17 (.cons (.v 3) (.cons (.v 4) (.cons (.v 7) .nil)))) (.cons (.ite (.e (.cmp .ne (.v 8) (.nw (.disp .nil)))) (.ix (.v 8) (.lit (.int 0))) (.lit .none)) (.cons (.call 17 (.cons (.v 3) (.cons (.v 4) (.cons (.v 7) .nil)))) .nil))))) .nil))))) (.cons (.ret (.lit (.bool false))) .nil) .nil) .nil)))) (.cons (.ret (.lit (.bool true))) .nil)))))))) }
def F__law_kinds_right : Fn := { name := "_law_kinds_right", np := 1, N := ["cup", "colours", "k", "every", "colour", "longer", "row", "kinds", "great", "due", "own"], body := (.cons (.asg (.tp (.cons (.nm 1) (.cons (.nm 2) .nil))) (.tup (.cons (.bin .add (.lit (.int 1)) (.call 13 (.cons (.v 0) (.cons (.lit (.int 3)) .nil)))) (.cons (.call 13 (.cons (.v 0) (.cons (.lit (.int 4)) .nil))) .nil)))) (.cons (.asg (.nm 3) (.nw (.disp (.cons (.tup .nil) .nil)))) (.cons (.for_ (.nm 4) (.rng1 (.v 1)) (.cons (.asg (.nm 5) (.nw (.disp .nil))) (.cons (.for_ (.nm 6) (.ex (.v 3)) (.cons (.asg (.nm 5) (.bin .add (.v 5) (.nw (.comp (.nm 10) (.rng1 (.bin .add (.v 2) (.lit (.int 3)))) .nil (.bin .add (.v 6) (.tup (.cons (.v 10) .nil))) [10])))) .nil)) (.cons (.asg (.nm 3) (.v 5)) .nil)))) (.cons (.asg (.nm 7) (.cellOf (.disp .nil))) (.cons (.for_ (.nm 6) (.ex (.v 3)) (.cons (.ifs (.e (.cmp .eq (.nw (.comp (.nm 10) (.ex (.v 7)) (.cons (.e (.call 17 (.cons (.v 10) (.cons (.v 6) (.cons (.v 2) .nil))))) .nil) (.lit (.int 1)) [10])) (.nw (.disp .nil)))) (.cons (.expr (.append (.v 7) (.v 6))) .nil) .nil) .nil)) (.cons (.par2 8 9 (.call 13 (.cons (.v 0) (.cons (.bin .add (.bin .pow (.lit (.int 10)) (.lit (.int 18))) (.lit (.int 1))) .nil))) (.lit (.int 1))) (.cons (.for_ (.nm 4) (.rng1 (.lit (.int 8))) (.cons (.asg (.nm 9) (.bin .mul (.v 9) (.bin .add (.v 8) (.lit (.int 1))))) .nil)) (.cons (.ret (.call 16 (.cons (.nw (.disp (.cons (.call 11 (.cons (.v 1) (.cons (.v 2) .nil))) (.cons (.call 11 (.cons (.lit (.int 8)) (.cons (.v 8) .nil))) .nil)))) (.cons (.nw (.disp (.cons (.bi .len (.cons (.v 7) .nil)) (.cons (.v 9) .nil)))) .nil)))) .nil)))))))) }
def F__law_written_right : Fn := { name := "_law_written_right", np := 0, N := ["told"], body := (.cons (.asg (.nm 0) (.nw (.disp (.cons (.call 8 (.cons (.tup (.cons (.lit (.int 3)) (.cons (.lit (.int 0)) .nil))) (.cons (.tup (.cons (.lit (.int 4)) (.cons (.lit (.int 0)) .nil))) (.cons (.lit (.int 3)) .nil)))) (.cons (.call 8 (.cons (.tup (.cons (.lit (.int 3)) (.cons (.lit (.int 0)) .nil))) (.cons (.tup (.cons (.lit (.int 4)) (.cons (.lit (.int 0)) .nil))) (.cons (.lit (.int 4)) .nil)))) (.cons (.call 9 (.cons (.tup (.cons (.lit (.int 3)) (.cons (.lit (.int 0)) .nil))) (.cons (.tup (.cons (.lit (.int 4)) (.cons (.lit (.int 0)) .nil))) (.cons (.lit (.int 4)) .nil)))) (.cons (.call 9 (.cons (.tup (.cons (.lit (.int 3)) (.cons (.lit (.int 0)) .nil))) (.cons (.tup (.cons (.lit (.int 4)) (.cons (.lit (.int 0)) .nil))) (.cons (.lit (.int 3)) .nil)))) (.cons (.call 10 (.cons (.tup (.cons (.lit (.int 3)) (.cons (.lit (.int 0)) .nil))) (.cons (.tup (.cons (.lit (.int 4)) (.cons (.lit (.int 0)) .nil))) .nil))) .nil)))))))) (.cons (.asg (.nm 0) (.bin .add (.v 0) (.nw (.disp (.cons (.call 10 (.cons (.tup (.cons (.lit (.int 1)) (.cons (.lit (.int 2)) .nil))) (.cons (.tup (.cons (.lit (.int 1)) (.cons (.lit (.int 2)) .nil))) .nil))) (.cons (.call 10 (.cons (.tup (.cons (.lit (.int 5)) (.cons (.lit (.int 0)) .nil))) (.cons (.tup (.cons (.lit (.int 7)) (.cons (.lit (.int 1)) .nil))) .nil))) (.cons (.call 11 (.cons (.lit (.int 2)) (.cons (.lit (.int 2)) .nil))) (.cons (.call 11 (.cons (.lit (.int 3)) (.cons (.lit (.int 0)) .nil))) (.cons (.call 9 (.cons (.tup (.cons (.lit (.int 1)) (.cons (.lit (.int 0)) .nil))) (.cons (.tup (.cons (.lit (.int 2)) (.cons (.lit (.int 5)) .nil))) (.cons (.lit (.int 9)) .nil)))) .nil))))))))) (.cons (.ret (.call 16 (.cons (.v 0) (.cons (.nw (.disp (.cons (.lit (.bool true)) (.cons (.lit (.bool false)) (.cons (.lit (.int 0)) (.cons (.lit .none) (.cons (.lit (.int 4)) (.cons (.lit .none) (.cons (.lit (.int 1)) (.cons (.lit (.int 9)) (.cons (.lit (.int 1)) (.cons (.lit (.int 0)) .nil)))))))))))) .nil)))) .nil))) }
def F_law : Fn := { name := "law", np := 1, N := ["script", "cup", "turn"], body := (.cons (.asg (.nm 1) (.call 12 (.cons (.v 0) .nil))) (.cons (.for_ (.nm 2) (.rng1 (.lit (.int 8))) (.cons (.ifs (.or (.cons (.nt (.e (.call 18 (.cons (.v 1) .nil)))) (.cons (.nt (.e (.call 19 (.cons (.v 1) .nil)))) .nil))) (.cons (.ret (.lit (.bool false))) .nil) .nil) .nil)) (.cons (.ret (.call 20 .nil)) .nil))) }
def fs : List Fn := [F_is_whole, F_need_whole, F_is_tuple_of, F_are_wholes, F_are_counts, F_need_both, F_need_counts, F_parting_in, F_counts_keep_up, F_parting_colour, F_fewest_counts, F_count_kinds, F__law_cup, F__law_roll, F__law_some, F__law_sort, F__law_like, F__law_keep, F__law_right, F__law_kinds_right, F__law_written_right, F_law]
def prg : Prg := ⟨fs, [("COLOURS", (.int 8)), ("GREAT", (.int 1000000000000000000))]⟩
end K52

set_option Elab.async false
set_option linter.all false
set_option maxRecDepth 100000
set_option maxHeartbeats 0
/-! the defs checked against the row (printed by genlaw.py) -/
namespace K52
open Py PySem PySem.Spec PyProof.Rows L2
def top (i : Nat) : Stmt := PySem.Challenge.pw_reasonsgiven_k52_whole_counts.main.body.getD i (.Pass ⟨0, 0, 0, 0⟩)
theorem chk_0 : chkF prg F_is_whole (top 5) = true := by decide +kernel
theorem chk_1 : chkF prg F_need_whole (top 6) = true := by decide +kernel
theorem chk_2 : chkF prg F_is_tuple_of (top 7) = true := by decide +kernel
theorem chk_3 : chkF prg F_are_wholes (top 8) = true := by decide +kernel
theorem chk_4 : chkF prg F_are_counts (top 12) = true := by decide +kernel
theorem chk_5 : chkF prg F_need_both (top 13) = true := by decide +kernel
theorem chk_6 : chkF prg F_need_counts (top 14) = true := by decide +kernel
theorem chk_7 : chkF prg F_parting_in (top 15) = true := by decide +kernel
theorem chk_8 : chkF prg F_counts_keep_up (top 16) = true := by decide +kernel
theorem chk_9 : chkF prg F_parting_colour (top 17) = true := by decide +kernel
theorem chk_10 : chkF prg F_fewest_counts (top 18) = true := by decide +kernel
theorem chk_11 : chkF prg F_count_kinds (top 19) = true := by decide +kernel
theorem chk_12 : chkF prg F__law_cup (top 21) = true := by decide +kernel
theorem chk_13 : chkF prg F__law_roll (top 22) = true := by decide +kernel
theorem chk_14 : chkF prg F__law_some (top 23) = true := by decide +kernel
theorem chk_15 : chkF prg F__law_sort (top 24) = true := by decide +kernel
theorem chk_16 : chkF prg F__law_like (top 25) = true := by decide +kernel
theorem chk_17 : chkF prg F__law_keep (top 26) = true := by decide +kernel
theorem chk_18 : chkF prg F__law_right (top 27) = true := by decide +kernel
theorem chk_19 : chkF prg F__law_kinds_right (top 28) = true := by decide +kernel
theorem chk_20 : chkF prg F__law_written_right (top 29) = true := by decide +kernel
theorem chk_21 : chkF prg F_law (top 30) = true := by decide +kernel
theorem bind_0 : bindB (top 5) "is_whole" := fun _ _ _ _ _ _ us hl => match us, hl with | [_, _, _], _ => rfl
theorem bind_1 : bindB (top 6) "need_whole" := fun _ _ _ _ _ _ us hl => match us, hl with | [_, _, _], _ => rfl
theorem bind_2 : bindB (top 7) "is_tuple_of" := fun _ _ _ _ _ _ us hl => match us, hl with | [_, _, _], _ => rfl
theorem bind_3 : bindB (top 8) "are_wholes" := fun _ _ _ _ _ _ us hl => match us, hl with | [_, _, _, _], _ => rfl
theorem bind_4 : bindB (top 12) "are_counts" := fun _ _ _ _ _ _ us hl => match us, hl with | [_], _ => rfl
theorem bind_5 : bindB (top 13) "need_both" := fun _ _ _ _ _ _ us hl => match us, hl with | [_, _, _], _ => rfl
theorem bind_6 : bindB (top 14) "need_counts" := fun _ _ _ _ _ _ us hl => match us, hl with | [_, _], _ => rfl
theorem bind_7 : bindB (top 15) "parting_in" := fun _ _ _ _ _ _ us hl => match us, hl with | [_, _, _], _ => rfl
theorem bind_8 : bindB (top 16) "counts_keep_up" := fun _ _ _ _ _ _ us hl => match us, hl with | [_, _, _], _ => rfl
theorem bind_9 : bindB (top 17) "parting_colour" := fun _ _ _ _ _ _ us hl => match us, hl with | [_, _, _], _ => rfl
theorem bind_10 : bindB (top 18) "fewest_counts" := fun _ _ _ _ _ _ us hl => match us, hl with | [_, _], _ => rfl
theorem bind_11 : bindB (top 19) "count_kinds" := fun _ _ _ _ _ _ us hl => match us, hl with | [_, _], _ => rfl
theorem bind_12 : bindB (top 21) "_law_cup" := fun _ _ _ _ _ _ us hl => match us, hl with | [_], _ => rfl
theorem bind_13 : bindB (top 22) "_law_roll" := fun _ _ _ _ _ _ us hl => match us, hl with | [_, _], _ => rfl
theorem bind_14 : bindB (top 23) "_law_some" := fun _ _ _ _ _ _ us hl => match us, hl with | [_, _], _ => rfl
theorem bind_15 : bindB (top 24) "_law_sort" := fun _ _ _ _ _ _ us hl => match us, hl with | [_], _ => rfl
theorem bind_16 : bindB (top 25) "_law_like" := fun _ _ _ _ _ _ us hl => match us, hl with | [_, _], _ => rfl
theorem bind_17 : bindB (top 26) "_law_keep" := fun _ _ _ _ _ _ us hl => match us, hl with | [_, _, _], _ => rfl
theorem bind_18 : bindB (top 27) "_law_right" := fun _ _ _ _ _ _ us hl => match us, hl with | [_], _ => rfl
theorem bind_19 : bindB (top 28) "_law_kinds_right" := fun _ _ _ _ _ _ us hl => match us, hl with | [_], _ => rfl
theorem bind_20 : bindB (top 29) "_law_written_right" := fun _ _ _ _ _ _ us hl => match us, hl with | [], _ => rfl
theorem bind_21 : bindB (top 30) "law" := fun _ _ _ _ _ _ us hl => match us, hl with | [_], _ => rfl
end K52

set_option Elab.async false
set_option linter.all false
set_option maxRecDepth 100000
set_option maxHeartbeats 0
/-! the head of the row (printed by genlaw.py) -/
namespace K52
open Py PySem PySem.Spec PyProof.Rows L2
def fn : List He.DefD := [defOf (top 5) "is_whole", defOf (top 6) "need_whole", defOf (top 7) "is_tuple_of", defOf (top 8) "are_wholes", defOf (top 12) "are_counts", defOf (top 13) "need_both", defOf (top 14) "need_counts", defOf (top 15) "parting_in", defOf (top 16) "counts_keep_up", defOf (top 17) "parting_colour", defOf (top 18) "fewest_counts", defOf (top 19) "count_kinds", defOf (top 21) "_law_cup", defOf (top 22) "_law_roll", defOf (top 23) "_law_some", defOf (top 24) "_law_sort", defOf (top 25) "_law_like", defOf (top 26) "_law_keep", defOf (top 27) "_law_right", defOf (top 28) "_law_kinds_right", defOf (top 29) "_law_written_right", defOf (top 30) "law"]
def fa : List He.Fa := [.glo "is_whole", .glo "need_whole", .glo "is_tuple_of", .glo "are_wholes", .glo "are_counts", .glo "need_both", .glo "need_counts", .glo "parting_in", .glo "counts_keep_up", .glo "parting_colour", .glo "fewest_counts", .glo "count_kinds", .glo "_law_cup", .glo "_law_roll", .glo "_law_some", .glo "_law_sort", .glo "_law_like", .glo "_law_keep", .glo "_law_right", .glo "_law_kinds_right", .glo "_law_written_right", .glo "law", .free "len", .free "abs", .free "int", .free "tuple", .free "list", .free "min", .free "max", .free "all", .free "any", .free "sum", .free "isinstance", .free "range", .free "zip", .free "enumerate", .free "bool", .free "str", .int "COLOURS" 8, .int "GREAT" 1000000000000000000]
abbrev rowR : PySem.W.OpenRow := PySem.W.OpenLaw.row PySem.Challenge.rw_reasonsgiven_k52_whole_counts
abbrev hk : PySem.W.Hook := He.hookD 4 fa fn
def ob (s : PySem.W.SharedT) : He.AlD := He.obsDG 4 fa fn (HandSHeadRun.getT s)
theorem ob_eq (s : PySem.W.SharedT) : ob s = hk.obs s.abs := He.obsDG_eq (HandSHeadRun.getT_eq s)
abbrev loose : List PySem.Str := ["ReasonError", "InvalidNumber", "InvalidSigns", "is_whole", "need_whole", "is_tuple_of", "are_wholes", "COLOURS", "GREAT", "are_counts", "need_both", "need_counts", "parting_in", "counts_keep_up", "parting_colour", "fewest_counts", "count_kinds", "_law_cup", "_law_roll", "_law_some", "_law_sort", "_law_like", "_law_keep", "_law_right", "_law_kinds_right", "_law_written_right"]
theorem run (w : World) : HandSHeadRun.RunEq rowR (PySem.W.view rowR.prog [30]) hk ob 20000 loose w := by
  intro os
  kernel_rfl
end K52

set_option Elab.async false
set_option linter.all false
set_option maxRecDepth 100000
set_option maxHeartbeats 0
/-! the law (printed by genlaw.py) -/
namespace K52
open Py PySem PySem.Spec PyProof.Rows L2
theorem all_fn {K : PySem.W.Frag} {h : Heap} {mg : PySem.Str → Option Value} (X : K.In h) (N : h.Ns mainGlobals mg) (c : He.SaysD fa fn K) : ∀ (f : Nat) F, prg.fs[f]? = some F → FnAt prg (fAdOf K prg.fs) K mg f F := by
  intro f F hF
  match f, hF with
  | 0, hF =>
    cases hF
    exact fnAt_of (st := top 5) (x := "is_whole") X N c rfl rfl (by simp [fa]) (List.mem_of_getElem? (i := 0) rfl) chk_0 bind_0
  | 1, hF =>
    cases hF
    exact fnAt_of (st := top 6) (x := "need_whole") X N c rfl rfl (by simp [fa]) (List.mem_of_getElem? (i := 1) rfl) chk_1 bind_1
  | 2, hF =>
    cases hF
    exact fnAt_of (st := top 7) (x := "is_tuple_of") X N c rfl rfl (by simp [fa]) (List.mem_of_getElem? (i := 2) rfl) chk_2 bind_2
  | 3, hF =>
    cases hF
    exact fnAt_of (st := top 8) (x := "are_wholes") X N c rfl rfl (by simp [fa]) (List.mem_of_getElem? (i := 3) rfl) chk_3 bind_3
  | 4, hF =>
    cases hF
    exact fnAt_of (st := top 12) (x := "are_counts") X N c rfl rfl (by simp [fa]) (List.mem_of_getElem? (i := 4) rfl) chk_4 bind_4
  | 5, hF =>
    cases hF
    exact fnAt_of (st := top 13) (x := "need_both") X N c rfl rfl (by simp [fa]) (List.mem_of_getElem? (i := 5) rfl) chk_5 bind_5
  | 6, hF =>
    cases hF
    exact fnAt_of (st := top 14) (x := "need_counts") X N c rfl rfl (by simp [fa]) (List.mem_of_getElem? (i := 6) rfl) chk_6 bind_6
  | 7, hF =>
    cases hF
    exact fnAt_of (st := top 15) (x := "parting_in") X N c rfl rfl (by simp [fa]) (List.mem_of_getElem? (i := 7) rfl) chk_7 bind_7
  | 8, hF =>
    cases hF
    exact fnAt_of (st := top 16) (x := "counts_keep_up") X N c rfl rfl (by simp [fa]) (List.mem_of_getElem? (i := 8) rfl) chk_8 bind_8
  | 9, hF =>
    cases hF
    exact fnAt_of (st := top 17) (x := "parting_colour") X N c rfl rfl (by simp [fa]) (List.mem_of_getElem? (i := 9) rfl) chk_9 bind_9
  | 10, hF =>
    cases hF
    exact fnAt_of (st := top 18) (x := "fewest_counts") X N c rfl rfl (by simp [fa]) (List.mem_of_getElem? (i := 10) rfl) chk_10 bind_10
  | 11, hF =>
    cases hF
    exact fnAt_of (st := top 19) (x := "count_kinds") X N c rfl rfl (by simp [fa]) (List.mem_of_getElem? (i := 11) rfl) chk_11 bind_11
  | 12, hF =>
    cases hF
    exact fnAt_of (st := top 21) (x := "_law_cup") X N c rfl rfl (by simp [fa]) (List.mem_of_getElem? (i := 12) rfl) chk_12 bind_12
  | 13, hF =>
    cases hF
    exact fnAt_of (st := top 22) (x := "_law_roll") X N c rfl rfl (by simp [fa]) (List.mem_of_getElem? (i := 13) rfl) chk_13 bind_13
  | 14, hF =>
    cases hF
    exact fnAt_of (st := top 23) (x := "_law_some") X N c rfl rfl (by simp [fa]) (List.mem_of_getElem? (i := 14) rfl) chk_14 bind_14
  | 15, hF =>
    cases hF
    exact fnAt_of (st := top 24) (x := "_law_sort") X N c rfl rfl (by simp [fa]) (List.mem_of_getElem? (i := 15) rfl) chk_15 bind_15
  | 16, hF =>
    cases hF
    exact fnAt_of (st := top 25) (x := "_law_like") X N c rfl rfl (by simp [fa]) (List.mem_of_getElem? (i := 16) rfl) chk_16 bind_16
  | 17, hF =>
    cases hF
    exact fnAt_of (st := top 26) (x := "_law_keep") X N c rfl rfl (by simp [fa]) (List.mem_of_getElem? (i := 17) rfl) chk_17 bind_17
  | 18, hF =>
    cases hF
    exact fnAt_of (st := top 27) (x := "_law_right") X N c rfl rfl (by simp [fa]) (List.mem_of_getElem? (i := 18) rfl) chk_18 bind_18
  | 19, hF =>
    cases hF
    exact fnAt_of (st := top 28) (x := "_law_kinds_right") X N c rfl rfl (by simp [fa]) (List.mem_of_getElem? (i := 19) rfl) chk_19 bind_19
  | 20, hF =>
    cases hF
    exact fnAt_of (st := top 29) (x := "_law_written_right") X N c rfl rfl (by simp [fa]) (List.mem_of_getElem? (i := 20) rfl) chk_20 bind_20
  | 21, hF =>
    cases hF
    exact fnAt_of (st := top 30) (x := "law") X N c rfl rfl (by simp [fa]) (List.mem_of_getElem? (i := 21) rfl) chk_21 bind_21
  | n + 22, hF => exact absurd hF (by simp [prg, fs])
theorem all_co {K : PySem.W.Frag} {h : Heap} {mg : PySem.Str → Option Value} (X : K.In h) (N : h.Ns mainGlobals mg) (c : He.SaysD fa fn K) : ∀ x d, (x, d) ∈ prg.consts → ∃ u v, mg (Str.ofString x) = some u ∧ RelV v u ∧ ∀ H L, Dv K H L v d := by
  intro x d hm
  have hm : (x, d) ∈ [("COLOURS", PyData.int 8), ("GREAT", PyData.int 1000000000000000000)] := hm
  rcases List.mem_cons.mp hm with e | hm
  · cases e
    obtain ⟨t, e⟩ := He.int_ok X N (He.SaysD.facts c (f := .int "COLOURS" 8) (by simp [fa]))
    exact ⟨_, .int _, e, ⟨t, rfl⟩, fun _ _ => .int _⟩
  rcases List.mem_cons.mp hm with e | hm
  · cases e
    obtain ⟨t, e⟩ := He.int_ok X N (He.SaysD.facts c (f := .int "GREAT" 1000000000000000000) (by simp [fa]))
    exact ⟨_, .int _, e, ⟨t, rfl⟩, fun _ _ => .int _⟩
  cases hm
theorem all_bl {K : PySem.W.Frag} {h : Heap} {mg : PySem.Str → Option Value} (X : K.In h) (N : h.Ns mainGlobals mg) (c : He.SaysD fa fn K) : ∀ x ∈ bNames, mg x = none := by
  intro x hx
  refine He.free_ok X N (He.SaysD.facts c (f := .free x) ?_)
  have : ∀ y ∈ bNames, (He.Fa.free y) ∈ fa := by
    intro y hy
    simp only [bNames, List.mem_cons, List.not_mem_nil, or_false] at hy
    rcases hy with rfl | rfl | rfl | rfl | rfl | rfl | rfl | rfl | rfl | rfl | rfl | rfl | rfl | rfl | rfl | rfl <;> simp [fa]
  exact this x hx
open PySem PySem.W PySem.Calls PyProof.Rows in
theorem holds_of (main : ∀ ns : List Int, ns.length ≤ 63 → ∃ st, callF prg.fs 12 21 [.fz (ns.map PyData.int)] [] = .ok (.d (.bool true), st)) : PySem.Challenge.rw_reasonsgiven_k52_whole_counts.Holds := by
  w_on; o_law
  refine HandSHeadRun.head_any (r := PySem.W.OpenLaw.row PySem.Challenge.rw_reasonsgiven_k52_whole_counts) (q := PySem.W.view (PySem.W.OpenLaw.row PySem.Challenge.rw_reasonsgiven_k52_whole_counts).prog [30]) (H := hk) (ob := ob) (M := 20000) (loose := loose) (d := HandSHeadRun.topDef (PySem.W.OpenLaw.row PySem.Challenge.rw_reasonsgiven_k52_whole_counts).prog 30) (kwd := []) ob_eq
    (by kernel_rfl) (fun s => by kernel_rfl) run (by kernel_rfl) (by kernel_rfl) (by kernel_rfl) (by rfl) (by first | assumption | decide +kernel) (by decide +kernel) ⟨rfl, rfl, rfl, rfl, rfl, by decide +kernel⟩ ?hw ?hc
  case hw => w_witness2
  case hc =>
    refine walk_ofW (l := PySem.Challenge.rw_reasonsgiven_k52_whole_counts) (n := 63) (k := 12) (x := "script") rfl (by decide) (by kernel_rfl) ⟨rfl, by decide, by decide⟩ ?F
    intro w mg fa0 h Y G hmg0
    obtain ⟨K, KX, c⟩ := Y
    have hmg : mg ("law" : PySem.Str) = some (.ref fa0) := by
      have e : (HandSHeadRun.topDef (PySem.W.OpenLaw.row PySem.Challenge.rw_reasonsgiven_k52_whole_counts).prog 30).name = ("law" : PySem.Str) := by kernel_rfl
      rw [← e]
      exact hmg0
    exact end_of (prg := prg) (f := 21) (F := F_law) (k := 11) (x := "script") (y := "law") (n := 63) KX hmg rfl rfl (by decide +kernel) (by decide +kernel) rfl (all_fn KX G c) (all_co KX G c) (all_bl KX G c) main
end K52

set_option Elab.async false
set_option linter.all false
set_option maxRecDepth 100000
set_option maxHeartbeats 1000000
/-! IV: plain lemmas about the interpreter -/
namespace Py
open PySem

section
variable {cal : CallF}
theorem xs_nx {s : Stm} {ss : Stms} {env e1 : En} {st s1 : Sto} (h : execS cal s env st = .ok (.nx e1, s1)) : execSs cal (.cons s ss) env st = execSs cal ss e1 s1 := by
  rw [execSs, h]
theorem xs_rt {s : Stm} {ss : Stms} {env : En} {st s1 : Sto} {x : Val} (h : execS cal s env st = .ok (.rt x, s1)) : execSs cal (.cons s ss) env st = .ok (.rt x, s1) := by
  rw [execSs, h]
theorem xs_nil {env : En} {st : Sto} : execSs cal .nil env st = .ok (.nx env, st) := rfl
theorem s_asg {tg : Tg} {e : Ex} {env env1 : En} {st s1 : Sto} {x : Val} (h : evalE cal e env st = .ok (x, s1)) (hi : asgV tg x env = some env1) : execS cal (.asg tg e) env st = .ok (.nx env1, s1) := by
  unfold execS
  rw [h, ok_bind]
  simp only [hi, ofOpt, ok_bind]
theorem s_expr {e : Ex} {env : En} {st s1 : Sto} {x : Val} (h : evalE cal e env st = .ok (x, s1)) : execS cal (.expr e) env st = .ok (.nx env, s1) := by
  unfold execS
  rw [h, ok_bind]
theorem s_ret {e : Ex} {env : En} {st s1 : Sto} {x : Val} (h : evalE cal e env st = .ok (x, s1)) : execS cal (.ret e) env st = .ok (.rt x, s1) := by
  unfold execS
  rw [h, ok_bind]
theorem s_ifT {c : Te} {a b : Stms} {env : En} {st s1 : Sto} (h : evalT cal c env st = .ok (true, s1)) : execS cal (.ifs c a b) env st = execSs cal a env s1 := by
  unfold execS
  rw [h, ok_bind]
  rfl
theorem s_ifF {c : Te} {a b : Stms} {env : En} {st s1 : Sto} (h : evalT cal c env st = .ok (false, s1)) : execS cal (.ifs c a b) env st = execSs cal b env s1 := by
  unfold execS
  rw [h, ok_bind]
  rfl
theorem s_for {tg : Tg} {src : Sr} {body : Stms} {env : En} {st s1 : Sto} {xs : List D} {g : Option Nat} (h : evalSr cal src env st = .ok ((xs, g), s1)) : execS cal (.for_ tg src body) env st = forL (forF (execSs cal body) tg) g xs env s1 := by
  unfold execS
  rw [h, ok_bind]
theorem s_par2 {i j : Nat} {a b : Ex} {env : En} {st s1 s2 : Sto} {x y : Val} (h : evalE cal a env st = .ok (x, s1)) (h2 : evalE cal b env s1 = .ok (y, s2)) (hi : i < env.length) (hj : j < env.length) :
    execS cal (.par2 i j a b) env st = .ok (.nx ((env.set i (some x)).set j (some y)), s2) := by
  unfold execS
  rw [h, ok_bind]
  simp only [h2, ok_bind, hi, hj]
  rfl

/-! ### comprehensions, loops -/
inductive All2 {α β : Type} (Q : α → β → Prop) : List α → List β → Prop
  | nil : All2 Q [] []
  | cons {x y xs ys} (h : Q x y) (t : All2 Q xs ys) : All2 Q (x :: xs) (y :: ys)
theorem All2.length {α β : Type} {Q : α → β → Prop} : ∀ {xs : List α} {ys : List β}, All2 Q xs ys → xs.length = ys.length
  | _, _, .nil => rfl
  | _, _, .cons _ t => by simp [t.length]
theorem All2.imp {α β : Type} {Q Q' : α → β → Prop} (f : ∀ x y, Q x y → Q' x y) : ∀ {xs : List α} {ys : List β}, All2 Q xs ys → All2 Q' xs ys
  | _, _, .nil => .nil
  | _, _, .cons h t => .cons (f _ _ h) (t.imp f)
theorem All2.right {α β : Type} {Q : β → Prop} : ∀ {xs : List α} {ys : List β}, All2 (fun _ y => Q y) xs ys → ∀ y ∈ ys, Q y
  | _, _, .nil, y, h => absurd h (by simp)
  | _, _, .cons h t, y, m => by
    rcases List.mem_cons.mp m with rfl | m
    · exact h
    · exact t.right y m
theorem compL_map {f : D → Sto → R (Option D × Sto)} {h : D → Option D} {st : Sto} : ∀ {xs : List D}, (∀ x ∈ xs, f x st = .ok (h x, st)) → compL f none xs st = .ok (xs.filterMap h, st)
  | [], _ => rfl
  | x :: xs, e => by
    unfold compL
    rw [e x List.mem_cons_self]
    simp only [guardOk, if_true]
    rw [compL_map fun y hy => e y (List.mem_cons_of_mem _ hy)]
    simp only [List.filterMap_cons]
    cases h x <;> rfl
/-- a comprehension that draws -/
theorem compL_inv {f : D → Sto → R (Option D × Sto)} {P : Sto → Prop} {Q : D → D → Prop} : ∀ {xs : List D} {st : Sto}, (∀ x ∈ xs, ∀ st, P st → ∃ y st', f x st = .ok (some y, st') ∧ P st' ∧ Q x y) → P st →
    ∃ ys st', compL f none xs st = .ok (ys, st') ∧ P st' ∧ All2 Q xs ys
  | [], st, _, p => ⟨[], st, rfl, p, .nil⟩
  | x :: xs, st, h, p => by
    obtain ⟨y, s1, e1, p1, q1⟩ := h x List.mem_cons_self st p
    obtain ⟨ys, s2, e2, p2, q2⟩ := compL_inv (xs := xs) (fun z hz => h z (List.mem_cons_of_mem _ hz)) p1
    refine ⟨y :: ys, s2, ?_, p2, .cons q1 q2⟩
    unfold compL
    rw [e1]
    simp only [guardOk, if_true]
    rw [e2]
    rfl
theorem forL_nil {f : D → En → Sto → R (Out × Sto)} {g : Option Nat} {env : En} {st : Sto} : forL f g [] env st = .ok (.nx env, st) := rfl
theorem forL_nx {f : D → En → Sto → R (Out × Sto)} {x : D} {xs : List D} {env e1 : En} {st s1 : Sto} (h : f x env st = .ok (.nx e1, s1)) : forL f none (x :: xs) env st = forL f none xs e1 s1 := by
  rw [forL, h]
  rfl
theorem forL_rt {f : D → En → Sto → R (Out × Sto)} {g : Option Nat} {x : D} {xs : List D} {env : En} {st s1 : Sto} {v : Val} (h : f x env st = .ok (.rt v, s1)) : forL f g (x :: xs) env st = .ok (.rt v, s1) := by
  rw [forL, h]
/-- a loop that goes to its end -/
theorem forL_inv {f : D → En → Sto → R (Out × Sto)} {I : En → Sto → Prop} : ∀ {xs : List D} {env : En} {st : Sto}, (∀ x ∈ xs, ∀ env st, I env st → ∃ e1 s1, f x env st = .ok (.nx e1, s1) ∧ I e1 s1) → I env st →
    ∃ e1 s1, forL f none xs env st = .ok (.nx e1, s1) ∧ I e1 s1
  | [], env, st, _, p => ⟨env, st, rfl, p⟩
  | x :: xs, env, st, h, p => by
    obtain ⟨e1, s1, q, p1⟩ := h x List.mem_cons_self env st p
    obtain ⟨e2, s2, q2, p2⟩ := forL_inv (xs := xs) (fun z hz => h z (List.mem_cons_of_mem _ hz)) p1
    exact ⟨e2, s2, (forL_nx q).trans q2, p2⟩
end

theorem callF_def {fs : List Fn} {k f : Nat} {F : Fn} {args : List Val} {st : Sto} (hF : fs[f]? = some F) (hl : args.length = F.np) :
    callF fs (k + 1) f args st = finish st.length (execSs (callF fs k) F.body (args.map some ++ List.replicate (F.N.length - F.np) none) st) := by
  show (match fs[f]? with | some F => _ | none => _) = _
  rw [hF]
  show (if _ then _ else _) = _
  rw [if_pos hl]

/-! ### expressions by rules -/
section
variable {cal : CallF}
theorem e_call {f : Nat} {es : Exs} {env : En} {st s1 : Sto} {xs : List Val} (h : evalEs cal es env st = .ok (xs, s1)) : evalE cal (.call f es) env st = cal f xs s1 := by
  rw [evalE, h]
  rfl
theorem e_bi {b : Bi} {es : Exs} {env : En} {st s1 : Sto} {xs : List Val} {z : D} (h : evalEs cal es env st = .ok (xs, s1)) (h2 : biV s1 b xs = some z) : evalE cal (.bi b es) env st = .ok (.d z, s1) := by
  rw [evalE, h, ok_bind]
  simp only [h2, ofOpt, ok_bind]
theorem es_nil {env : En} {st : Sto} : evalEs cal .nil env st = .ok ([], st) := rfl
theorem es_cons {e : Ex} {es : Exs} {env : En} {st s1 s2 : Sto} {x : Val} {xs : List Val} (h : evalE cal e env st = .ok (x, s1)) (h2 : evalEs cal es env s1 = .ok (xs, s2)) : evalEs cal (.cons e es) env st = .ok (x :: xs, s2) := by
  rw [evalEs, h, ok_bind]
  simp only [h2, ok_bind]
theorem ds_nil {env : En} {st : Sto} : evalDs cal .nil env st = .ok ([], st) := rfl
theorem ds_cons {e : Ex} {es : Exs} {env : En} {st s1 s2 : Sto} {x : D} {xs : List D} (h : evalE cal e env st = .ok (.d x, s1)) (h2 : evalDs cal es env s1 = .ok (xs, s2)) : evalDs cal (.cons e es) env st = .ok (x :: xs, s2) := by
  rw [evalDs, h, ok_bind]
  simp only [plain, ofOpt, h2, ok_bind]
theorem e_nw {n : Nw} {env : En} {st s1 : Sto} {xs : List D} (h : evalN cal n env st = .ok (xs, s1)) : evalE cal (.nw n) env st = .ok (.d (.list xs), s1) := by
  rw [evalE, h]
  rfl
theorem e_cellOf {n : Nw} {env : En} {st s1 : Sto} {xs : List D} (h : evalN cal n env st = .ok (xs, s1)) : evalE cal (.cellOf n) env st = .ok (.cell s1.length, s1 ++ [.lst xs]) := by
  rw [evalE, h]
  rfl
theorem e_tup {es : Exs} {env : En} {st s1 : Sto} {xs : List D} (h : evalDs cal es env st = .ok (xs, s1)) (hl : xs.length ≤ LIM) : evalE cal (.tup es) env st = .ok (.d (.tuple xs), s1) := by
  rw [evalE, h, ok_bind]
  simp only [if_pos hl]
theorem n_disp {es : Exs} {env : En} {st s1 : Sto} {xs : List D} (h : evalDs cal es env st = .ok (xs, s1)) (hl : xs.length ≤ LIM) : evalN cal (.disp es) env st = .ok (xs, s1) := by
  rw [evalN, h, ok_bind]
  simp only [if_pos hl]
theorem n_comp {tg : Tg} {src : Sr} {ifs : Tes} {e : Ex} {own : List Nat} {env : En} {st s1 s2 : Sto} {xs ys : List D} {g : Option Nat} (h : evalSr cal src env st = .ok ((xs, g), s1)) (hl : xs.length ≤ LIM)
    (hc : compL (compF (evalIfs cal ifs) (evalE cal e) tg (wipeE env own)) g xs s1 = .ok (ys, s2)) : evalN cal (.comp tg src ifs e own) env st = .ok (ys, s2) := by
  rw [evalN, h, ok_bind]
  simp only [if_pos hl, hc]
theorem e_bin {o : Op} {a b : Ex} {env : En} {st s1 s2 : Sto} {x y : Val} {z : D} (h : evalE cal a env st = .ok (x, s1)) (h2 : evalE cal b env s1 = .ok (y, s2)) (h3 : opV s2 o x y = some z) : evalE cal (.bin o a b) env st = .ok (.d z, s2) := by
  rw [evalE, h, ok_bind]
  simp only [h2, ok_bind, h3, ofOpt]
theorem e_cmp {c : Cm} {a b : Ex} {env : En} {st s1 s2 : Sto} {x y : Val} {z : Bool} (h : evalE cal a env st = .ok (x, s1)) (h2 : evalE cal b env s1 = .ok (y, s2)) (h3 : cmV s2 c x y = some z) : evalE cal (.cmp c a b) env st = .ok (.d (.bool z), s2) := by
  rw [evalE, h, ok_bind]
  simp only [h2, ok_bind, h3, ofOpt]
theorem e_eqv {a b : Ex} {env : En} {st s1 s2 : Sto} {x y : D} {z : Bool} (h : evalE cal a env st = .ok (.d x, s1)) (h2 : evalE cal b env s1 = .ok (.d y, s2)) (h3 : eqD x y = some z) : evalE cal (.cmp .eq a b) env st = .ok (.d (.bool z), s2) := e_cmp h h2 h3
theorem e_nev {a b : Ex} {env : En} {st s1 s2 : Sto} {x y : D} {z : Bool} (h : evalE cal a env st = .ok (.d x, s1)) (h2 : evalE cal b env s1 = .ok (.d y, s2)) (h3 : eqD x y = some z) : evalE cal (.cmp .ne a b) env st = .ok (.d (.bool (!z)), s2) :=
  e_cmp h h2 (by show (eqD x y).map not = _; rw [h3]; rfl)
theorem e_ix {a b : Ex} {env : En} {st s1 s2 : Sto} {x y : Val} {z : D} (h : evalE cal a env st = .ok (x, s1)) (h2 : evalE cal b env s1 = .ok (y, s2)) (h3 : ixV s2 x y = some z) : evalE cal (.ix a b) env st = .ok (.d z, s2) := by
  rw [evalE, h, ok_bind]
  simp only [h2, ok_bind, h3, ofOpt]
theorem e_iteT {c : Te} {a b : Ex} {env : En} {st s1 : Sto} (h : evalT cal c env st = .ok (true, s1)) : evalE cal (.ite c a b) env st = evalE cal a env s1 := by
  rw [evalE, h, ok_bind]
  rfl
theorem e_iteF {c : Te} {a b : Ex} {env : En} {st s1 : Sto} (h : evalT cal c env st = .ok (false, s1)) : evalE cal (.ite c a b) env st = evalE cal b env s1 := by
  rw [evalE, h, ok_bind]
  rfl
theorem e_and {es : Exs} {env : En} {st : Sto} : evalE cal (.and es) env st = evalAnd cal es env st := rfl
theorem and_1 {a : Ex} {env : En} {st : Sto} : evalAnd cal (.cons a .nil) env st = evalE cal a env st := rfl
theorem and_T {a b : Ex} {es : Exs} {env : En} {st s1 : Sto} (h : evalE cal a env st = .ok (.d (.bool true), s1)) : evalAnd cal (.cons a (.cons b es)) env st = evalAnd cal (.cons b es) env s1 := by
  rw [evalAnd, h, ok_bind]
  rfl
  exact fun h => by cases h
theorem and_F {a b : Ex} {es : Exs} {env : En} {st s1 : Sto} (h : evalE cal a env st = .ok (.d (.bool false), s1)) : evalAnd cal (.cons a (.cons b es)) env st = .ok (.d (.bool false), s1) := by
  rw [evalAnd, h, ok_bind]
  rfl
  exact fun h => by cases h
theorem t_and {es : Tes} {env : En} {st : Sto} : evalT cal (.and es) env st = evalAndT cal es env st := rfl
theorem t_or {es : Tes} {env : En} {st : Sto} : evalT cal (.or es) env st = evalOrT cal es env st := rfl
theorem tand_1 {a : Te} {env : En} {st : Sto} : evalAndT cal (.cons a .nil) env st = evalT cal a env st := rfl
theorem tor_1 {a : Te} {env : En} {st : Sto} : evalOrT cal (.cons a .nil) env st = evalT cal a env st := rfl
theorem tand_T {a b : Te} {es : Tes} {env : En} {st s1 : Sto} (h : evalT cal a env st = .ok (true, s1)) : evalAndT cal (.cons a (.cons b es)) env st = evalAndT cal (.cons b es) env s1 := by
  rw [evalAndT, h, ok_bind]
  rfl
  exact fun h => by cases h
theorem tand_F {a b : Te} {es : Tes} {env : En} {st s1 : Sto} (h : evalT cal a env st = .ok (false, s1)) : evalAndT cal (.cons a (.cons b es)) env st = .ok (false, s1) := by
  rw [evalAndT, h, ok_bind]
  rfl
  exact fun h => by cases h
theorem tor_F {a b : Te} {es : Tes} {env : En} {st s1 : Sto} (h : evalT cal a env st = .ok (false, s1)) : evalOrT cal (.cons a (.cons b es)) env st = evalOrT cal (.cons b es) env s1 := by
  rw [evalOrT, h, ok_bind]
  rfl
  exact fun h => by cases h
theorem tor_T {a b : Te} {es : Tes} {env : En} {st s1 : Sto} (h : evalT cal a env st = .ok (true, s1)) : evalOrT cal (.cons a (.cons b es)) env st = .ok (true, s1) := by
  rw [evalOrT, h, ok_bind]
  rfl
  exact fun h => by cases h
theorem t_e {a : Ex} {env : En} {st s1 : Sto} {x : Val} {b : Bool} (h : evalE cal a env st = .ok (x, s1)) (h2 : truth s1 x = some b) : evalT cal (.e a) env st = .ok (b, s1) := by
  rw [evalT, h, ok_bind]
  simp only [h2, ofOpt, ok_bind]
theorem t_nt {a : Te} {env : En} {st s1 : Sto} {b : Bool} (h : evalT cal a env st = .ok (b, s1)) : evalT cal (.nt a) env st = .ok (!b, s1) := by
  rw [evalT, h, ok_bind]
theorem cF {ifs : Tes} {e : Ex} {tg : Tg} {env env1 : En} {x y : D} {st s1 s2 : Sto} (h : asgT tg x env = some env1) (h1 : evalIfs cal ifs env1 st = .ok (true, s1)) (h2 : evalE cal e env1 s1 = .ok (.d y, s2)) :
    compF (evalIfs cal ifs) (evalE cal e) tg env x st = .ok (some y, s2) := by
  unfold compF
  simp only [h, h1, h2]
theorem cF_no {ifs : Tes} {e : Ex} {tg : Tg} {env env1 : En} {x : D} {st s1 : Sto} (h : asgT tg x env = some env1) (h1 : evalIfs cal ifs env1 st = .ok (false, s1)) :
    compF (evalIfs cal ifs) (evalE cal e) tg env x st = .ok (none, s1) := by
  unfold compF
  simp only [h, h1]
theorem fF {body : Stms} {tg : Tg} {env env1 : En} {x : D} {st : Sto} (h : asgT tg x env = some env1) : forF (execSs cal body) tg x env st = execSs cal body env1 st := by
  unfold forF
  simp only [h]
end

theorem call_body {fs : List Fn} {k f : Nat} {F : Fn} {args : List Val} {st s1 : Sto} {x : D} (hF : fs[f]? = some F) (hl : args.length = F.np)
    (h : execSs (callF fs k) F.body (args.map some ++ List.replicate (F.N.length - F.np) none) st = .ok (.rt (.d x), s1)) : callF fs (k + 1) f args st = .ok (.d x, s1.take st.length) := by
  rw [callF_def hF hl, h]
  rfl
theorem take_self {st : Sto} : st.take st.length = st := List.take_length
/-! ### numbers -/
theorem log2_ok {m : Int} (h : 0 < m) (h2 : m < 2 ^ 64) : m.natAbs.log2 < 9000 := by
  have : m.natAbs.log2 < 64 := by
    rw [Nat.log2_lt (by omega)]
    omega
  omega
/-! ### equality of plain data -/
def scal : D → Bool
  | .none => true
  | .bool _ => true
  | .int _ => true
  | _ => false
theorem scal_lay : ∀ xs : List D, xs.all scal = true → PyData.canLayAll0 xs = true ∧ PyData.depthAll xs = 0
  | [], _ => ⟨rfl, rfl⟩
  | x :: xs, h => by
    rw [List.all_cons, Bool.and_eq_true] at h
    obtain ⟨a, b⟩ := scal_lay xs h.2
    cases x <;> simp [scal] at h <;> exact ⟨by simp [PyData.canLayAll0, PyData.canLay0, a], by simp [PyData.depthAll, PyData.depth, b]⟩
theorem shaped_list {xs : List D} (h : xs.all scal = true) : SeqAt.shaped (.list xs) = true := by
  obtain ⟨a, b⟩ := scal_lay xs h
  simp [SeqAt.shaped, PyData.canLay0, PyData.depth, a, b]
theorem shaped_tuple {xs : List D} (h : xs.all scal = true) : SeqAt.shaped (.tuple xs) = true := by
  obtain ⟨a, b⟩ := scal_lay xs h
  simp [SeqAt.shaped, PyData.canLay0, PyData.depth, a, b]
theorem shaped_scal {x : D} (h : scal x = true) : SeqAt.shaped x = true := by
  cases x <;> first | rfl | cases h
theorem eqD_int (i j : Int) : eqD (.int i) (.int j) = some (decide (i = j)) := rfl
theorem eqD_nil {xs : List D} (h : xs.all scal = true) : eqD (.list xs) (.list []) = some xs.isEmpty := by
  show (if (SeqAt.shaped (PyData.list xs) && SeqAt.shaped (PyData.list [])) = true then some (PyData.eqv (PyData.list xs) (PyData.list [])) else none) = _
  rw [shaped_list h]
  cases xs <;> rfl
/-! ### numbers -/
theorem mul_ok {i j : Int} (h : -(2 ^ 64) < i) (h2 : i < 2 ^ 64) : mulOk i j = true := by
  unfold mulOk
  simp only [Bool.or_eq_true, Bool.and_eq_true, decide_eq_true_eq]
  exact .inl (.inl ⟨h, h2⟩)
theorem mul_ok' {i j : Int} (h : -(2 ^ 64) < j) (h2 : j < 2 ^ 64) : mulOk i j = true := by
  unfold mulOk
  simp only [Bool.or_eq_true, Bool.and_eq_true, decide_eq_true_eq]
  exact .inl (.inr ⟨h, h2⟩)
theorem fdiv_ok {j : Int} (h : 0 < j) (h2 : j < 2 ^ 64) : (decide (0 < j) && decide (j.natAbs.log2 < 9000)) = true := by
  have : j.natAbs.log2 < 64 := by
    rw [Nat.log2_lt (by omega)]
    omega
  simp only [Bool.and_eq_true, decide_eq_true_eq]
  exact ⟨h, by omega⟩
theorem rngD_eq : ∀ (n : Nat) (lo : Int), rngD lo n = (List.range n).map fun i => PyData.int (lo + (i : Nat))
  | 0, _ => rfl
  | n + 1, lo => by
    rw [rngD, rngD_eq n, List.range_succ_eq_map]
    simp only [List.map_cons, List.map_map]
    congr 1
    · simp
    · apply List.map_congr_left
      intro i _
      simp only [Function.comp]
      congr 1
      omega
end Py

set_option Elab.async false
set_option linter.all false
set_option maxRecDepth 100000
set_option maxHeartbeats 1000000
/-! V52a: what the defs of law_k52 answer, one by one -/
namespace K52
open Py PySem
abbrev I (xs : List Int) : List D := xs.map PyData.int
abbrev cup (a b : Int) : Cell := .lst [.int a, .int b]
theorem roll (k : Nat) (a b m : Int) (rest : Sto) (h : 0 < m) (h2 : m < 2 ^ 64) (hb : 0 ≤ b) (hb2 : b < 2 ^ 32) :
    ∃ r a' b', callF fs (k + 1) 13 [.cell 0, .d (.int m)] (cup a b :: rest) = .ok (.d (.int r), cup a' b' :: rest) ∧ 0 ≤ r ∧ r < m ∧ 0 ≤ b' ∧ b' < 2 ^ 32 := by
  have hl := log2_ok h h2
  by_cases ha : 0 < a
  · refine ⟨a % m, a / m, b, ?_, Int.emod_nonneg _ (by omega), Int.emod_lt_of_pos _ h, hb, hb2⟩
    rw [callF_def (F := F__law_roll) rfl rfl]
    simp [F__law_roll, execSs, execS, evalE, evalT, evalEs, evalDs, evalN, evalSr, evalAnd, evalOr, evalAndT, evalOrT, evalIfs, evalPo, ok_bind, ofOpt, asgV, asgT, asgTs, opV, opD, cmV, cmD, eqD_int, ixV, ixD, slV, biV, seqOf, lstOf, dataOf, cellLst, Py.plain, truth, boolOf, isNone, isTy, bd62, guardOf, wipeE, L2.atI, L2.ixN, Py.finish, h, hl, ha]
  · have h3 : mulOk b 29251 = true := mul_ok' (by decide) (by decide)
    have h5 : 0 ≤ (b * 29251 + 9811) % 2147483543 := Int.emod_nonneg _ (by decide)
    have h6 : (b * 29251 + 9811) % 2147483543 < 2147483543 := Int.emod_lt_of_pos _ (by decide)
    have h4 : mulOk ((b * 29251 + 9811) % 2147483543) ((b * 29251 + 9811) % 2147483543 + 349) = true := mul_ok (by omega) (by omega)
    have h7 : Nat.log2 947 < 9000 := by decide
    refine ⟨(((b * 29251 + 9811) % 2147483543) * ((b * 29251 + 9811) % 2147483543 + 349) % 2147483587) / 947 % m, a, (b * 29251 + 9811) % 2147483543, ?_, Int.emod_nonneg _ (by omega), Int.emod_lt_of_pos _ h, h5, by omega⟩
    rw [callF_def (F := F__law_roll) rfl rfl]
    simp [F__law_roll, execSs, execS, evalE, evalT, evalEs, evalDs, evalN, evalSr, evalAnd, evalOr, evalAndT, evalOrT, evalIfs, evalPo, ok_bind, ofOpt, asgV, asgT, asgTs, opV, opD, cmV, cmD, eqD_int, ixV, ixD, slV, biV, seqOf, lstOf, dataOf, cellLst, Py.plain, truth, boolOf, isNone, isTy, bd62, guardOf, wipeE, L2.atI, L2.ixN, Py.finish, h, hl, ha, h3, h4, h7]
theorem some_ (k : Nat) (a b : Int) (rest : Sto) (xs : List D) (h : 0 < xs.length) (h2 : xs.length < 1000) (hb : 0 ≤ b) (hb2 : b < 2 ^ 32) :
    ∃ x a' b', callF fs (k + 2) 14 [.cell 0, .d (.list xs)] (cup a b :: rest) = .ok (.d x, cup a' b' :: rest) ∧ x ∈ xs ∧ 0 ≤ b' ∧ b' < 2 ^ 32 := by
  obtain ⟨r, a', b', e, r0, r1, b0, b1⟩ := roll k a b xs.length rest (by omega) (by omega) hb hb2
  have hr : r.toNat < xs.length := by omega
  refine ⟨xs[r.toNat], a', b', ?_, List.getElem_mem hr, b0, b1⟩
  rw [callF_def (F := F__law_some) rfl rfl]
  have r2 : r < (xs.length : Int) := r1
  simp [F__law_some, execSs, execS, evalE, evalT, evalEs, evalDs, evalN, evalSr, evalAnd, evalOr, evalAndT, evalOrT, evalIfs, evalPo, ok_bind, ofOpt, asgV, asgT, asgTs, opV, opD, cmV, cmD, eqD_int, ixV, ixD, slV, biV, seqOf, lstOf, dataOf, cellLst, Py.plain, truth, boolOf, isNone, isTy, bd62, guardOf, wipeE, L2.atI, L2.ixN, Py.finish, e, r0, r2, hr]
theorem is_whole (k : Nat) (v lo hi : Int) (st : Sto) : callF fs (k + 1) 0 [.d (.int v), .d (.int lo), .d (.int hi)] st = .ok (.d (.bool (decide (lo ≤ v) && decide (v ≤ hi))), st) := by
  rw [callF_def (F := F_is_whole) rfl rfl]
  by_cases h : lo ≤ v <;> by_cases h2 : v ≤ hi <;> simp [F_is_whole, execSs, execS, evalE, evalT, evalEs, evalDs, evalN, evalSr, evalAnd, evalOr, evalAndT, evalOrT, evalIfs, evalPo, ok_bind, ofOpt, asgV, asgT, asgTs, opV, opD, cmV, cmD, eqD_int, ixV, ixD, slV, biV, seqOf, lstOf, dataOf, cellLst, Py.plain, truth, boolOf, isNone, isTy, bd62, guardOf, wipeE, L2.atI, L2.ixN, Py.finish, h, h2]
theorem need_whole (k : Nat) (v lo hi : Int) (st : Sto) (h : lo ≤ v) (h2 : v ≤ hi) : callF fs (k + 2) 1 [.d (.int v), .d (.int lo), .d (.int hi)] st = .ok (.d .none, st) := by
  rw [callF_def (F := F_need_whole) rfl rfl]
  have e := is_whole k v lo hi st
  simp only [h, h2, decide_true, Bool.and_self] at e
  simp [F_need_whole, execSs, execS, evalE, evalT, evalEs, evalDs, evalN, evalSr, evalAnd, evalOr, evalAndT, evalOrT, evalIfs, evalPo, ok_bind, ofOpt, asgV, asgT, asgTs, opV, opD, cmV, cmD, eqD_int, ixV, ixD, slV, biV, seqOf, lstOf, dataOf, cellLst, Py.plain, truth, boolOf, isNone, isTy, bd62, guardOf, wipeE, L2.atI, L2.ixN, Py.finish, e]
theorem is_tuple_of (k : Nat) (xs : List D) (lo hi : Int) (st : Sto) (h : lo ≤ xs.length) (h2 : xs.length ≤ hi) : callF fs (k + 1) 2 [.d (.tuple xs), .d (.int lo), .d (.int hi)] st = .ok (.d (.bool true), st) := by
  rw [callF_def (F := F_is_tuple_of) rfl rfl]
  simp [F_is_tuple_of, execSs, execS, evalE, evalT, evalEs, evalDs, evalN, evalSr, evalAnd, evalOr, evalAndT, evalOrT, evalIfs, evalPo, ok_bind, ofOpt, asgV, asgT, asgTs, opV, opD, cmV, cmD, eqD_int, ixV, ixD, slV, biV, seqOf, lstOf, dataOf, cellLst, Py.plain, truth, boolOf, isNone, isTy, bd62, guardOf, wipeE, L2.atI, L2.ixN, Py.finish, h, h2]
theorem boolsOf_true {α : Type} : ∀ xs : List α, boolsOf (xs.map fun _ => PyData.bool true) = some (xs.map fun _ => true)
  | [] => rfl
  | x :: xs => by simp [boolsOf, boolsOf_true xs]
theorem all_true {α : Type} : ∀ xs : List α, (xs.map fun _ => true).all id = true
  | [] => rfl
  | x :: xs => by simp
theorem are_wholes (k : Nat) (xs : List Int) (lo hi : Int) (st : Sto) (hl : xs.length ≤ 1000) (h : ∀ x ∈ xs, lo ≤ x ∧ x ≤ hi) : callF fs (k + 2) 3 [.d (.tuple (I xs)), .d (.int xs.length), .d (.int lo), .d (.int hi)] st = .ok (.d (.bool true), st) := by
  have e1 := is_tuple_of k (I xs) xs.length xs.length st (by simp) (by simp)
  have e2 : evalE (callF fs (k + 1)) (.bi .all (.cons (.nw (.comp (.nm 4) (.ex (.v 0)) .nil (.call 0 (.cons (.v 4) (.cons (.v 2) (.cons (.v 3) .nil)))) [4])) .nil)) [some (.d (.tuple (I xs))), some (.d (.int xs.length)), some (.d (.int lo)), some (.d (.int hi)), none] st = .ok (.d (.bool true), st) := by
    refine e_bi (xs := [.d (.list (xs.map fun _ => .bool true))]) (es_cons (e_nw (n_comp (g := none) (xs := I xs) (s1 := st) (by simp [execSs, execS, evalE, evalT, evalEs, evalDs, evalN, evalSr, evalAnd, evalOr, evalAndT, evalOrT, evalIfs, evalPo, ok_bind, ofOpt, asgV, asgT, asgTs, opV, opD, cmV, cmD, eqD_int, ixV, ixD, slV, biV, seqOf, lstOf, dataOf, cellLst, Py.plain, truth, boolOf, isNone, isTy, bd62, guardOf, wipeE, L2.atI, L2.ixN, Py.finish]) ?_ ?_)) es_nil) ?_
    · rw [List.length_map]
      exact Nat.le_trans hl (by decide)
    · refine (compL_map (h := fun _ => some (.bool true)) fun x hx => ?_).trans (by simp [List.filterMap_map, Function.comp_def])
      obtain ⟨n, hn, rfl⟩ := List.mem_map.mp hx
      obtain ⟨h1, h2⟩ := h n hn
      have e3 := is_whole k n lo hi st
      simp only [h1, h2, decide_true, Bool.and_self] at e3
      exact cF rfl rfl (by simp [execSs, execS, evalE, evalT, evalEs, evalDs, evalN, evalSr, evalAnd, evalOr, evalAndT, evalOrT, evalIfs, evalPo, ok_bind, ofOpt, asgV, asgT, asgTs, opV, opD, cmV, cmD, eqD_int, ixV, ixD, slV, biV, seqOf, lstOf, dataOf, cellLst, Py.plain, truth, boolOf, isNone, isTy, bd62, guardOf, wipeE, L2.atI, L2.ixN, Py.finish, e3])
    · simp [biV, lstOf, boolsOf_true]
  have e3 : evalE (callF fs (k + 1)) (.call 2 (.cons (.v 0) (.cons (.v 1) (.cons (.v 1) .nil)))) [some (.d (.tuple (I xs))), some (.d (.int xs.length)), some (.d (.int lo)), some (.d (.int hi)), none] st = .ok (.d (.bool true), st) := by simp [execSs, execS, evalE, evalT, evalEs, evalDs, evalN, evalSr, evalAnd, evalOr, evalAndT, evalOrT, evalIfs, evalPo, ok_bind, ofOpt, asgV, asgT, asgTs, opV, opD, cmV, cmD, eqD_int, ixV, ixD, slV, biV, seqOf, lstOf, dataOf, cellLst, Py.plain, truth, boolOf, isNone, isTy, bd62, guardOf, wipeE, L2.atI, L2.ixN, Py.finish, e1]
  exact (call_body (F := F_are_wholes) rfl rfl (xs_rt (s_ret (e_and.trans ((and_T e3).trans (and_1.trans e2)))))).trans (by rw [take_self])
def Cnt (xs : List Int) : Prop := 1 ≤ xs.length ∧ xs.length ≤ 8 ∧ ∀ x ∈ xs, 0 ≤ x ∧ x ≤ 1000000000000000000
theorem are_counts (k : Nat) (xs : List Int) (st : Sto) (h : Cnt xs) : callF fs (k + 3) 4 [.d (.tuple (I xs))] st = .ok (.d (.bool true), st) := by
  obtain ⟨h1, h2, h3⟩ := h
  have e1 := is_tuple_of (k + 1) (I xs) 1 8 st (by simp; omega) (by simp; omega)
  have e2 := are_wholes k xs 0 1000000000000000000 st (by omega) h3
  rw [callF_def (F := F_are_counts) rfl rfl]
  simp [F_are_counts, execSs, execS, evalE, evalT, evalEs, evalDs, evalN, evalSr, evalAnd, evalOr, evalAndT, evalOrT, evalIfs, evalPo, ok_bind, ofOpt, asgV, asgT, asgTs, opV, opD, cmV, cmD, eqD_int, ixV, ixD, slV, biV, seqOf, lstOf, dataOf, cellLst, Py.plain, truth, boolOf, isNone, isTy, bd62, guardOf, wipeE, L2.atI, L2.ixN, Py.finish, e1, e2]
theorem need_counts (k : Nat) (xs ys : List Int) (st : Sto) (h : Cnt xs) (h2 : Cnt ys) (hl : xs.length = ys.length) : callF fs (k + 4) 6 [.d (.tuple (I xs)), .d (.tuple (I ys))] st = .ok (.d .none, st) := by
  have e1 := are_counts k xs st h
  have e2 := are_counts k ys st h2
  rw [callF_def (F := F_need_counts) rfl rfl]
  simp [F_need_counts, execSs, execS, evalE, evalT, evalEs, evalDs, evalN, evalSr, evalAnd, evalOr, evalAndT, evalOrT, evalIfs, evalPo, ok_bind, ofOpt, asgV, asgT, asgTs, opV, opD, cmV, cmD, eqD_int, ixV, ixD, slV, biV, seqOf, lstOf, dataOf, cellLst, Py.plain, truth, boolOf, isNone, isTy, bd62, guardOf, wipeE, L2.atI, L2.ixN, Py.finish, e1, e2, hl]
theorem need_both (k : Nat) (xs ys : List Int) (n : Int) (st : Sto) (h : Cnt xs) (h2 : Cnt ys) (hl : xs.length = ys.length) (hn : 0 ≤ n) (hn2 : n ≤ 1000000000000000000) :
    callF fs (k + 5) 5 [.d (.tuple (I xs)), .d (.tuple (I ys)), .d (.int n)] st = .ok (.d .none, st) := by
  have e1 := need_counts k xs ys st h h2 hl
  have e2 := need_whole (k + 2) n 0 1000000000000000000 st hn hn2
  rw [callF_def (F := F_need_both) rfl rfl]
  simp [F_need_both, execSs, execS, evalE, evalT, evalEs, evalDs, evalN, evalSr, evalAnd, evalOr, evalAndT, evalOrT, evalIfs, evalPo, ok_bind, ofOpt, asgV, asgT, asgTs, opV, opD, cmV, cmD, eqD_int, ixV, ixD, slV, biV, seqOf, lstOf, dataOf, cellLst, Py.plain, truth, boolOf, isNone, isTy, bd62, guardOf, wipeE, L2.atI, L2.ixN, Py.finish, e1, e2]
end K52

set_option Elab.async false
set_option linter.all false
set_option maxRecDepth 100000
set_option maxHeartbeats 1000000
/-! V52b: what the defs of law_k52 answer: pairs -/
namespace K52
open Py PySem
abbrev Pr := List (Int × Int)
def pd (p : Int × Int) : D := .tuple [.int p.1, .int p.2]
def mn (a b : Int) : Int := if b < a then b else a
def cond (k : Int) (p : Int × Int) : Bool := decide (p.1 ≠ p.2) && decide (mn p.1 p.2 < k)
def keep (ps : Pr) (k : Int) : Bool := ps.all fun p => !cond k p
def part (k : Int) : Nat → Pr → Option Nat
  | _, [] => none
  | n, p :: ps => if cond k p = true then some n else part k (n + 1) ps
def oi : Option Nat → D
  | none => .none
  | some c => .int c
def few (ps : Pr) : List Int := ps.filterMap fun p => if p.1 = p.2 then none else some (mn p.1 p.2 + 1)
def mo (xs : List Int) : D := match minI xs with
  | none => .none
  | some m => .int m
theorem zipD_eq : ∀ xs ys : List Int, zipD (I xs) (I ys) = (xs.zip ys).map pd
  | [], _ => by simp [zipD]
  | _ :: _, [] => by simp [zipD]
  | x :: xs, y :: ys => by
    have := zipD_eq xs ys
    simp only [I] at this
    simp [zipD, pd, this]
theorem part_keep (k : Int) : ∀ (ps : Pr) (n : Nat), (part k n ps).isNone = keep ps k
  | [], _ => rfl
  | p :: ps, n => by
    have := part_keep k ps (n + 1)
    unfold keep at this ⊢
    unfold part
    cases h : cond k p <;> simp [h, this]
theorem isNone_oi (c : Option Nat) : isNone (.d (oi c)) = c.isNone := by cases c <;> rfl
theorem intsOf_I : ∀ xs : List Int, intsOf (I xs) = some xs
  | [] => rfl
  | x :: xs => by
    have := intsOf_I xs
    simp only [I] at this
    simp [intsOf, this]
theorem scal_I : ∀ xs : List Int, (I xs).all scal = true
  | [] => rfl
  | x :: xs => by
    have := scal_I xs
    simp only [I] at this
    simp [scal]

abbrev pbody : Stms := .cons (.ifs (.and (.cons (.e (.cmp .ne (.v 4) (.v 5))) (.cons (.e (.cmp .lt (.bi .min2 (.cons (.v 4) (.cons (.v 5) .nil))) (.v 2))) .nil))) (.cons (.ret (.v 3)) .nil) .nil) .nil
abbrev ptg : Tg := .tp (.cons (.nm 3) (.cons (.tp (.cons (.nm 4) (.cons (.nm 5) .nil))) .nil))
theorem parting_loop (cal : CallF) (k : Int) (st : Sto) (f s : Val) : ∀ (ps : Pr) (n : Nat) (a b c : Option Val), ∃ env, forL (forF (execSs cal pbody) ptg) none (enumD n (ps.map pd)) [some f, some s, some (.d (.int k)), a, b, c] st =
    match part k n ps with
    | some i => .ok (.rt (.d (.int i)), st)
    | none => .ok (.nx env, st)
  | [], n, a, b, c => ⟨_, rfl⟩
  | p :: ps, n, a, b, c => by
    obtain ⟨x, y⟩ := p
    obtain ⟨env, ih⟩ := parting_loop cal k st f s ps (n + 1) (some (.d (.int n))) (some (.d (.int x))) (some (.d (.int y)))
    unfold part
    cases h : cond k (x, y) with
    | true =>
      refine ⟨[], ?_⟩
      unfold cond mn at h
      simp only [Bool.and_eq_true, decide_eq_true_eq] at h
      refine (forL_rt (s1 := st) (v := .d (.int n)) ?_).trans rfl
      refine (fF (env1 := [some f, some s, some (.d (.int k)), some (.d (.int n)), some (.d (.int x)), some (.d (.int y))]) rfl).trans ?_
      simp [execSs, execS, evalE, evalT, evalEs, evalDs, evalN, evalSr, evalAnd, evalOr, evalAndT, evalOrT, evalIfs, evalPo, ok_bind, ofOpt, asgV, asgT, asgTs, opV, opD, cmV, cmD, eqD_int, ixV, ixD, slV, biV, seqOf, lstOf, dataOf, cellLst, Py.plain, truth, boolOf, isNone, isTy, bd62, guardOf, wipeE, L2.atI, L2.ixN, Py.finish, h.1, h.2]
    | false =>
      refine ⟨env, ?_⟩
      refine (forL_nx (e1 := [some f, some s, some (.d (.int k)), some (.d (.int n)), some (.d (.int x)), some (.d (.int y))]) (s1 := st) ?_).trans ih
      refine (fF (env1 := [some f, some s, some (.d (.int k)), some (.d (.int n)), some (.d (.int x)), some (.d (.int y))]) rfl).trans ?_
      unfold cond mn at h
      by_cases h1 : x = y
      · simp [execSs, execS, evalE, evalT, evalEs, evalDs, evalN, evalSr, evalAnd, evalOr, evalAndT, evalOrT, evalIfs, evalPo, ok_bind, ofOpt, asgV, asgT, asgTs, opV, opD, cmV, cmD, eqD_int, ixV, ixD, slV, biV, seqOf, lstOf, dataOf, cellLst, Py.plain, truth, boolOf, isNone, isTy, bd62, guardOf, wipeE, L2.atI, L2.ixN, Py.finish, h1]
      · have h2 : ¬ (if y < x then y else x) < k := by
          simpa [h1] using h
        have h3 : (decide ((if y < x then y else x) < k)) = false := by simpa using h2
        simp [execSs, execS, evalE, evalT, evalEs, evalDs, evalN, evalSr, evalAnd, evalOr, evalAndT, evalOrT, evalIfs, evalPo, ok_bind, ofOpt, asgV, asgT, asgTs, opV, opD, cmV, cmD, eqD_int, ixV, ixD, slV, biV, seqOf, lstOf, dataOf, cellLst, Py.plain, truth, boolOf, isNone, isTy, bd62, guardOf, wipeE, L2.atI, L2.ixN, Py.finish, h1, h3]
theorem parting_in (k : Nat) (xs ys : List Int) (n : Int) (st : Sto) : callF fs (k + 1) 7 [.d (.tuple (I xs)), .d (.tuple (I ys)), .d (.int n)] st = .ok (.d (oi (part n 0 (xs.zip ys))), st) := by
  obtain ⟨env, e⟩ := parting_loop (callF fs k) n st (.d (.tuple (I xs))) (.d (.tuple (I ys))) (xs.zip ys) 0 none none none
  have e2 : execS (callF fs k) (.for_ ptg (.enumz (.v 0) (.v 1)) pbody) [some (.d (.tuple (I xs))), some (.d (.tuple (I ys))), some (.d (.int n)), none, none, none] st = _ := (s_for (xs := enumD 0 ((xs.zip ys).map pd)) (g := none) (s1 := st) (by rw [← zipD_eq]; rfl)).trans e
  cases h : part n 0 (xs.zip ys) with
  | some i =>
    rw [h] at e2
    exact (call_body (F := F_parting_in) rfl rfl (xs_rt e2)).trans (by rw [take_self]; rfl)
  | none =>
    rw [h] at e2
    exact (call_body (F := F_parting_in) rfl rfl ((xs_nx e2).trans (xs_rt (s_ret rfl)))).trans (by rw [take_self]; rfl)
theorem keep_up (k : Nat) (xs ys : List Int) (n : Int) (st : Sto) (h : Cnt xs) (h2 : Cnt ys) (hl : xs.length = ys.length) (hn : 0 ≤ n) (hn2 : n ≤ 1000000000000000000) :
    callF fs (k + 6) 8 [.d (.tuple (I xs)), .d (.tuple (I ys)), .d (.int n)] st = .ok (.d (.bool (keep (xs.zip ys) n)), st) := by
  have e1 := need_both k xs ys n st h h2 hl hn hn2
  have e2 := parting_in (k + 4) xs ys n st
  rw [callF_def (F := F_counts_keep_up) rfl rfl]
  have e3 := isNone_oi (part n 0 (xs.zip ys))
  rw [part_keep] at e3
  unfold isNone at e3
  simp [F_counts_keep_up, execSs, execS, evalE, evalT, evalEs, evalDs, evalN, evalSr, evalAnd, evalOr, evalAndT, evalOrT, evalIfs, evalPo, ok_bind, ofOpt, asgV, asgT, asgTs, opV, opD, cmV, cmD, eqD_int, ixV, ixD, slV, biV, seqOf, lstOf, dataOf, cellLst, Py.plain, truth, boolOf, isNone, isTy, bd62, guardOf, wipeE, L2.atI, L2.ixN, Py.finish, e1, e2, e3]
theorem colour (k : Nat) (xs ys : List Int) (n : Int) (st : Sto) (h : Cnt xs) (h2 : Cnt ys) (hl : xs.length = ys.length) (hn : 0 ≤ n) (hn2 : n ≤ 1000000000000000000) :
    callF fs (k + 6) 9 [.d (.tuple (I xs)), .d (.tuple (I ys)), .d (.int n)] st = .ok (.d (oi (part n 0 (xs.zip ys))), st) := by
  have e1 := need_both k xs ys n st h h2 hl hn hn2
  have e2 := parting_in (k + 4) xs ys n st
  rw [callF_def (F := F_parting_colour) rfl rfl]
  simp [F_parting_colour, execSs, execS, evalE, evalT, evalEs, evalDs, evalN, evalSr, evalAnd, evalOr, evalAndT, evalOrT, evalIfs, evalPo, ok_bind, ofOpt, asgV, asgT, asgTs, opV, opD, cmV, cmD, eqD_int, ixV, ixD, slV, biV, seqOf, lstOf, dataOf, cellLst, Py.plain, truth, boolOf, isNone, isTy, bd62, guardOf, wipeE, L2.atI, L2.ixN, Py.finish, e1, e2]
def hFew : D → Option D
  | .tuple [.int a, .int b] => if a = b then none else some (.int (mn a b + 1))
  | _ => none
theorem fm_few (ps : Pr) : (ps.map pd).filterMap hFew = I (few ps) := by
  induction ps with
  | nil => rfl
  | cons p ps ih =>
    unfold few I at ih ⊢
    rw [List.map_cons, List.filterMap_cons, List.filterMap_cons, ih]
    by_cases h : p.1 = p.2 <;> simp [pd, hFew, h]
theorem zip_len (xs ys : List Int) (h : xs.length ≤ 8) : (zipD (I xs) (I ys)).length ≤ LIM := by
  rw [zipD_eq, List.length_map, List.length_zip]
  exact Nat.le_trans (Nat.min_le_left _ _) (Nat.le_trans h (by decide))
theorem fewest (k : Nat) (xs ys : List Int) (st : Sto) (h : Cnt xs) (h2 : Cnt ys) (hl : xs.length = ys.length) : callF fs (k + 5) 10 [.d (.tuple (I xs)), .d (.tuple (I ys))] st = .ok (.d (mo (few (xs.zip ys))), st) := by
  have e1 := need_counts k xs ys st h h2 hl
  have a1 : execS (callF fs (k + 4)) (.expr (.call 6 (.cons (.v 0) (.cons (.v 1) .nil)))) [some (.d (.tuple (I xs))), some (.d (.tuple (I ys))), none, none, none] st = .ok (.nx [some (.d (.tuple (I xs))), some (.d (.tuple (I ys))), none, none, none], st) := s_expr (x := .d .none) (by simp [execSs, execS, evalE, evalT, evalEs, evalDs, evalN, evalSr, evalAnd, evalOr, evalAndT, evalOrT, evalIfs, evalPo, ok_bind, ofOpt, asgV, asgT, asgTs, opV, opD, cmV, cmD, eqD_int, ixV, ixD, slV, biV, seqOf, lstOf, dataOf, cellLst, Py.plain, truth, boolOf, isNone, isTy, bd62, guardOf, wipeE, L2.atI, L2.ixN, Py.finish, e1])
  have a2 : evalE (callF fs (k + 4)) (.nw (.comp (.tp (.cons (.nm 3) (.cons (.nm 4) .nil))) (.zip (.v 0) (.v 1)) (.cons (.e (.cmp .ne (.v 3) (.v 4))) .nil) (.bin .add (.bi .min2 (.cons (.v 3) (.cons (.v 4) .nil))) (.lit (.int 1))) [3, 4])) [some (.d (.tuple (I xs))), some (.d (.tuple (I ys))), none, none, none] st = .ok (.d (.list (I (few (xs.zip ys)))), st) := by
    refine e_nw (n_comp (g := none) (xs := zipD (I xs) (I ys)) (s1 := st) (by simp [execSs, execS, evalE, evalT, evalEs, evalDs, evalN, evalSr, evalAnd, evalOr, evalAndT, evalOrT, evalIfs, evalPo, ok_bind, ofOpt, asgV, asgT, asgTs, opV, opD, cmV, cmD, eqD_int, ixV, ixD, slV, biV, seqOf, lstOf, dataOf, cellLst, Py.plain, truth, boolOf, isNone, isTy, bd62, guardOf, wipeE, L2.atI, L2.ixN, Py.finish]) (zip_len xs ys h.2.1) ?_)
    rw [zipD_eq, ← fm_few]
    refine compL_map fun x hx => ?_
    obtain ⟨⟨a, b⟩, _, rfl⟩ := List.mem_map.mp hx
    by_cases hab : a = b
    · refine (cF_no rfl (s1 := st) (by simp [execSs, execS, evalE, evalT, evalEs, evalDs, evalN, evalSr, evalAnd, evalOr, evalAndT, evalOrT, evalIfs, evalPo, ok_bind, ofOpt, asgV, asgT, asgTs, opV, opD, cmV, cmD, eqD_int, ixV, ixD, slV, biV, seqOf, lstOf, dataOf, cellLst, Py.plain, truth, boolOf, isNone, isTy, bd62, guardOf, wipeE, L2.atI, L2.ixN, Py.finish, hab])).trans (by simp [pd, hFew, hab])
    · refine (cF rfl (s1 := st) (s2 := st) (y := .int (mn a b + 1)) (by simp [execSs, execS, evalE, evalT, evalEs, evalDs, evalN, evalSr, evalAnd, evalOr, evalAndT, evalOrT, evalIfs, evalPo, ok_bind, ofOpt, asgV, asgT, asgTs, opV, opD, cmV, cmD, eqD_int, ixV, ixD, slV, biV, seqOf, lstOf, dataOf, cellLst, Py.plain, truth, boolOf, isNone, isTy, bd62, guardOf, wipeE, L2.atI, L2.ixN, Py.finish, hab]) (by simp [execSs, execS, evalE, evalT, evalEs, evalDs, evalN, evalSr, evalAnd, evalOr, evalAndT, evalOrT, evalIfs, evalPo, ok_bind, ofOpt, asgV, asgT, asgTs, opV, opD, cmV, cmD, eqD_int, ixV, ixD, slV, biV, seqOf, lstOf, dataOf, cellLst, Py.plain, truth, boolOf, isNone, isTy, bd62, guardOf, wipeE, L2.atI, L2.ixN, Py.finish, mn])).trans (by simp [pd, hFew, hab])
  have a3 : evalE (callF fs (k + 4)) (.minD (.v 2) (.lit .none)) [some (.d (.tuple (I xs))), some (.d (.tuple (I ys))), some (.d (.list (I (few (xs.zip ys))))), none, none] st = .ok (.d (mo (few (xs.zip ys))), st) := by
    generalize few (xs.zip ys) = ns
    cases ns with
    | nil => rfl
    | cons n ns =>
      have e := intsOf_I (n :: ns)
      simp only [I, List.map_cons] at e
      have e4 : ∃ m, minI (n :: ns) = some m := by
        clear e
        induction ns generalizing n with
        | nil => exact ⟨_, rfl⟩
        | cons b r ih =>
          obtain ⟨m, hm⟩ := ih b
          exact ⟨_, by simp only [minI, hm]; rfl⟩
      obtain ⟨m, hm⟩ := e4
      simp [execSs, execS, evalE, evalT, evalEs, evalDs, evalN, evalSr, evalAnd, evalOr, evalAndT, evalOrT, evalIfs, evalPo, ok_bind, ofOpt, asgV, asgT, asgTs, opV, opD, cmV, cmD, eqD_int, ixV, ixD, slV, biV, seqOf, lstOf, dataOf, cellLst, Py.plain, truth, boolOf, isNone, isTy, bd62, guardOf, wipeE, L2.atI, L2.ixN, Py.finish, e, hm, mo]
  exact (call_body (F := F_fewest_counts) rfl rfl ((xs_nx a1).trans ((xs_nx (s_asg a2 rfl)).trans (xs_rt (s_ret a3))))).trans (by rw [take_self])
def hKeep (k : Int) : D → Option D
  | .tuple [.int a, .int b] => if cond k (a, b) = true then some (.int 1) else none
  | _ => none
theorem fm_keep (k : Int) (ps : Pr) : ((ps.map pd).filterMap (hKeep k)).all scal = true ∧ ((ps.map pd).filterMap (hKeep k)).isEmpty = keep ps k := by
  induction ps with
  | nil => exact ⟨rfl, rfl⟩
  | cons p ps ih =>
    obtain ⟨a, b⟩ := p
    unfold keep at ih ⊢
    have e : hKeep k (pd (a, b)) = if cond k (a, b) = true then some (.int 1) else none := rfl
    rw [List.map_cons, List.filterMap_cons, e]
    cases h : cond k (a, b) with
    | true => exact ⟨by simpa [scal] using ih.1, by simp [h]⟩
    | false => exact ⟨ih.1, by rw [List.all_cons, h]; exact ih.2⟩
theorem mn_lt (a b k : Int) : mn a b < k ↔ a < k ∨ b < k := by
  unfold mn
  split <;> omega
theorem law_keep (k : Nat) (xs ys : List Int) (n : Int) (st : Sto) (h : xs.length ≤ 8) : callF fs (k + 1) 17 [.d (.tuple (I xs)), .d (.tuple (I ys)), .d (.int n)] st = .ok (.d (.bool (keep (xs.zip ys) n)), st) := by
  have a2 : evalE (callF fs k) (.nw (.comp (.tp (.cons (.nm 3) (.cons (.nm 4) .nil))) (.zip (.v 0) (.v 1)) (.cons (.and (.cons (.e (.cmp .ne (.v 3) (.v 4))) (.cons (.or (.cons (.e (.cmp .lt (.v 3) (.v 2))) (.cons (.e (.cmp .lt (.v 4) (.v 2))) .nil))) .nil))) .nil) (.lit (.int 1)) [3, 4]))
      [some (.d (.tuple (I xs))), some (.d (.tuple (I ys))), some (.d (.int n)), none, none] st = .ok (.d (.list (((xs.zip ys).map pd).filterMap (hKeep n))), st) := by
    refine e_nw (n_comp (g := none) (xs := zipD (I xs) (I ys)) (s1 := st) (by simp [execSs, execS, evalE, evalT, evalEs, evalDs, evalN, evalSr, evalAnd, evalOr, evalAndT, evalOrT, evalIfs, evalPo, ok_bind, ofOpt, asgV, asgT, asgTs, opV, opD, cmV, cmD, eqD_int, ixV, ixD, slV, biV, seqOf, lstOf, dataOf, cellLst, Py.plain, truth, boolOf, isNone, isTy, bd62, guardOf, wipeE, L2.atI, L2.ixN, Py.finish]) (zip_len xs ys h) ?_)
    rw [zipD_eq]
    refine compL_map fun x hx => ?_
    obtain ⟨⟨a, b⟩, _, rfl⟩ := List.mem_map.mp hx
    have hm := mn_lt a b n
    by_cases hab : a = b
    · refine (cF_no rfl (s1 := st) (by simp [execSs, execS, evalE, evalT, evalEs, evalDs, evalN, evalSr, evalAnd, evalOr, evalAndT, evalOrT, evalIfs, evalPo, ok_bind, ofOpt, asgV, asgT, asgTs, opV, opD, cmV, cmD, eqD_int, ixV, ixD, slV, biV, seqOf, lstOf, dataOf, cellLst, Py.plain, truth, boolOf, isNone, isTy, bd62, guardOf, wipeE, L2.atI, L2.ixN, Py.finish, hab])).trans (by simp [pd, hKeep, cond, hab])
    · by_cases h1 : a < n
      · have h2 : mn a b < n := hm.mpr (.inl h1)
        exact (cF rfl (s1 := st) (s2 := st) (y := .int 1) (by simp [execSs, execS, evalE, evalT, evalEs, evalDs, evalN, evalSr, evalAnd, evalOr, evalAndT, evalOrT, evalIfs, evalPo, ok_bind, ofOpt, asgV, asgT, asgTs, opV, opD, cmV, cmD, eqD_int, ixV, ixD, slV, biV, seqOf, lstOf, dataOf, cellLst, Py.plain, truth, boolOf, isNone, isTy, bd62, guardOf, wipeE, L2.atI, L2.ixN, Py.finish, hab, h1]) (by simp [execSs, execS, evalE, evalT, evalEs, evalDs, evalN, evalSr, evalAnd, evalOr, evalAndT, evalOrT, evalIfs, evalPo, ok_bind, ofOpt, asgV, asgT, asgTs, opV, opD, cmV, cmD, eqD_int, ixV, ixD, slV, biV, seqOf, lstOf, dataOf, cellLst, Py.plain, truth, boolOf, isNone, isTy, bd62, guardOf, wipeE, L2.atI, L2.ixN, Py.finish])).trans (by simp [pd, hKeep, cond, hab, h2])
      · by_cases h3 : b < n
        · have h2 : mn a b < n := hm.mpr (.inr h3)
          exact (cF rfl (s1 := st) (s2 := st) (y := .int 1) (by simp [execSs, execS, evalE, evalT, evalEs, evalDs, evalN, evalSr, evalAnd, evalOr, evalAndT, evalOrT, evalIfs, evalPo, ok_bind, ofOpt, asgV, asgT, asgTs, opV, opD, cmV, cmD, eqD_int, ixV, ixD, slV, biV, seqOf, lstOf, dataOf, cellLst, Py.plain, truth, boolOf, isNone, isTy, bd62, guardOf, wipeE, L2.atI, L2.ixN, Py.finish, hab, h1, h3]) (by simp [execSs, execS, evalE, evalT, evalEs, evalDs, evalN, evalSr, evalAnd, evalOr, evalAndT, evalOrT, evalIfs, evalPo, ok_bind, ofOpt, asgV, asgT, asgTs, opV, opD, cmV, cmD, eqD_int, ixV, ixD, slV, biV, seqOf, lstOf, dataOf, cellLst, Py.plain, truth, boolOf, isNone, isTy, bd62, guardOf, wipeE, L2.atI, L2.ixN, Py.finish])).trans (by simp [pd, hKeep, cond, hab, h2])
        · have h2 : ¬ mn a b < n := fun z => (hm.mp z).elim h1 h3
          exact (cF_no rfl (s1 := st) (by simp [execSs, execS, evalE, evalT, evalEs, evalDs, evalN, evalSr, evalAnd, evalOr, evalAndT, evalOrT, evalIfs, evalPo, ok_bind, ofOpt, asgV, asgT, asgTs, opV, opD, cmV, cmD, eqD_int, ixV, ixD, slV, biV, seqOf, lstOf, dataOf, cellLst, Py.plain, truth, boolOf, isNone, isTy, bd62, guardOf, wipeE, L2.atI, L2.ixN, Py.finish, hab, h1, h3])).trans (by simp [pd, hKeep, cond, hab, h2])
  have a3 : evalE (callF fs k) (.nw (.disp .nil)) [some (.d (.tuple (I xs))), some (.d (.tuple (I ys))), some (.d (.int n)), none, none] st = .ok (.d (.list []), st) := rfl
  obtain ⟨f1, f2⟩ := fm_keep n (xs.zip ys)
  have e4 := eqD_nil f1
  rw [f2] at e4
  exact (call_body (F := F__law_keep) rfl rfl (xs_rt (s_ret (e_eqv a2 a3 e4)))).trans (by rw [take_self])
/-! ### what is like -/
theorem sort_scal (k : Nat) (x : D) (st : Sto) (h : scal x = true) : ∃ i : Int, callF fs (k + 1) 15 [.d x] st = .ok (.d (.int i), st) ∧ 0 ≤ i ∧ i ≤ 2 := by
  cases x with
  | none => exact ⟨0, by rw [callF_def (F := F__law_sort) rfl rfl]; simp [F__law_sort, execSs, execS, evalE, evalT, evalEs, evalDs, evalN, evalSr, evalAnd, evalOr, evalAndT, evalOrT, evalIfs, evalPo, ok_bind, ofOpt, asgV, asgT, asgTs, opV, opD, cmV, cmD, eqD_int, ixV, ixD, slV, biV, seqOf, lstOf, dataOf, cellLst, Py.plain, truth, boolOf, isNone, isTy, bd62, guardOf, wipeE, L2.atI, L2.ixN, Py.finish], by decide, by decide⟩
  | bool b => exact ⟨1, by rw [callF_def (F := F__law_sort) rfl rfl]; simp [F__law_sort, execSs, execS, evalE, evalT, evalEs, evalDs, evalN, evalSr, evalAnd, evalOr, evalAndT, evalOrT, evalIfs, evalPo, ok_bind, ofOpt, asgV, asgT, asgTs, opV, opD, cmV, cmD, eqD_int, ixV, ixD, slV, biV, seqOf, lstOf, dataOf, cellLst, Py.plain, truth, boolOf, isNone, isTy, bd62, guardOf, wipeE, L2.atI, L2.ixN, Py.finish], by decide, by decide⟩
  | int i => exact ⟨2, by rw [callF_def (F := F__law_sort) rfl rfl]; simp [F__law_sort, execSs, execS, evalE, evalT, evalEs, evalDs, evalN, evalSr, evalAnd, evalOr, evalAndT, evalOrT, evalIfs, evalPo, ok_bind, ofOpt, asgV, asgT, asgTs, opV, opD, cmV, cmD, eqD_int, ixV, ixD, slV, biV, seqOf, lstOf, dataOf, cellLst, Py.plain, truth, boolOf, isNone, isTy, bd62, guardOf, wipeE, L2.atI, L2.ixN, Py.finish], by decide, by decide⟩
  | _ => cases h
theorem sort_list (k : Nat) (xs : List D) (st : Sto) : callF fs (k + 1) 15 [.d (.list xs)] st = .ok (.d (.int 5), st) := by
  rw [callF_def (F := F__law_sort) rfl rfl]
  simp [F__law_sort, execSs, execS, evalE, evalT, evalEs, evalDs, evalN, evalSr, evalAnd, evalOr, evalAndT, evalOrT, evalIfs, evalPo, ok_bind, ofOpt, asgV, asgT, asgTs, opV, opD, cmV, cmD, eqD_int, ixV, ixD, slV, biV, seqOf, lstOf, dataOf, cellLst, Py.plain, truth, boolOf, isNone, isTy, bd62, guardOf, wipeE, L2.atI, L2.ixN, Py.finish]
theorem eqD_self (x : D) (h : scal x = true) : eqD x x = some true := by
  cases x with
  | none => rfl
  | bool b => cases b <;> rfl
  | int i => simp [eqD]
  | _ => cases h
theorem in45 (i : Int) (h : i ≤ 2) : inD (.int i) (.tuple [.int 4, .int 5]) = some false := by
  have h1 : (4 == i) = false := by
    rw [beq_eq_false_iff_ne]
    omega
  have h2 : (5 == i) = false := by
    rw [beq_eq_false_iff_ne]
    omega
  have s1 : SeqAt.shaped (.int i) = true := rfl
  have s2 : SeqAt.shaped (.tuple [.int 4, .int 5]) = true := by decide
  simp [inD, s1, s2, PyData.eqv, h1, h2]
theorem in45' : inD (.int 5) (.tuple [.int 4, .int 5]) = some true := by decide
theorem lim2 : 2 ≤ LIM := by decide
theorem like_scal (k : Nat) (x : D) (st : Sto) (h : scal x = true) : callF fs (k + 2) 16 [.d x, .d x] st = .ok (.d (.bool true), st) := by
  obtain ⟨i, e, h0, h2⟩ := sort_scal k x st h
  have e1 := eqD_self x h
  have e2 := in45 i h2
  have h6 : i ≠ 6 := by omega
  rw [callF_def (F := F__law_like) rfl rfl]
  simp [F__law_like, execSs, execS, evalE, evalT, evalEs, evalDs, evalN, evalSr, evalAnd, evalOr, evalAndT, evalOrT, evalIfs, evalPo, ok_bind, ofOpt, asgV, asgT, asgTs, opV, opD, cmV, cmD, eqD_int, ixV, ixD, slV, biV, seqOf, lstOf, dataOf, cellLst, Py.plain, truth, boolOf, isNone, isTy, bd62, guardOf, wipeE, L2.atI, L2.ixN, Py.finish, e, e1, e2, h6, lim2]
theorem hAll_scal (xs : List D) (h : xs.all scal = true) : ∀ p ∈ zipD xs xs, ∃ x, p = .tuple [x, x] ∧ scal x = true := by
  induction xs with
  | nil => intro p hp; simp [zipD] at hp
  | cons x xs ih =>
    rw [List.all_cons, Bool.and_eq_true] at h
    intro p hp
    rw [zipD] at hp
    rcases List.mem_cons.mp hp with rfl | hp
    · exact ⟨x, rfl, h.1⟩
    · exact ih h.2 p hp
theorem zip_self_len (xs : List D) : (zipD xs xs).length = xs.length := by
  induction xs with
  | nil => rfl
  | cons x xs ih => simp [zipD, ih]
theorem like_list (k : Nat) (xs : List D) (st : Sto) (h : xs.all scal = true) (hl : xs.length ≤ 1000) : callF fs (k + 3) 16 [.d (.list xs), .d (.list xs)] st = .ok (.d (.bool true), st) := by
  have e := sort_list (k + 1) xs st
  have a2 : evalE (callF fs (k + 2)) (.nw (.comp (.tp (.cons (.nm 3) (.cons (.nm 4) .nil))) (.zip (.v 0) (.v 1)) (.cons (.nt (.e (.call 16 (.cons (.v 3) (.cons (.v 4) .nil))))) .nil) (.lit (.int 1)) [3, 4]))
      [some (.d (.list xs)), some (.d (.list xs)), some (.d (.int 5)), none, none] st = .ok (.d (.list []), st) := by
    refine e_nw (n_comp (g := none) (xs := zipD xs xs) (s1 := st) (by simp [execSs, execS, evalE, evalT, evalEs, evalDs, evalN, evalSr, evalAnd, evalOr, evalAndT, evalOrT, evalIfs, evalPo, ok_bind, ofOpt, asgV, asgT, asgTs, opV, opD, cmV, cmD, eqD_int, ixV, ixD, slV, biV, seqOf, lstOf, dataOf, cellLst, Py.plain, truth, boolOf, isNone, isTy, bd62, guardOf, wipeE, L2.atI, L2.ixN, Py.finish]) (by rw [zip_self_len]; exact Nat.le_trans hl (by decide)) ?_)
    refine (compL_map (h := fun _ => none) fun p hp => ?_).trans (by simp)
    obtain ⟨x, rfl, hx⟩ := hAll_scal xs h p hp
    have e1 := like_scal k x st hx
    exact cF_no rfl (by simp [execSs, execS, evalE, evalT, evalEs, evalDs, evalN, evalSr, evalAnd, evalOr, evalAndT, evalOrT, evalIfs, evalPo, ok_bind, ofOpt, asgV, asgT, asgTs, opV, opD, cmV, cmD, eqD_int, ixV, ixD, slV, biV, seqOf, lstOf, dataOf, cellLst, Py.plain, truth, boolOf, isNone, isTy, bd62, guardOf, wipeE, L2.atI, L2.ixN, Py.finish, e1])
  have e3 : eqD (.list []) (.list []) = some true := rfl
  rw [callF_def (F := F__law_like) rfl rfl]
  have b1 : execS (callF fs (k + 2)) (.asg (.nm 2) (.call 15 (.cons (.v 1) .nil))) [some (.d (.list xs)), some (.d (.list xs)), none, none, none] st = .ok (.nx [some (.d (.list xs)), some (.d (.list xs)), some (.d (.int 5)), none, none], st) := s_asg (x := .d (.int 5)) (by simp [execSs, execS, evalE, evalT, evalEs, evalDs, evalN, evalSr, evalAnd, evalOr, evalAndT, evalOrT, evalIfs, evalPo, ok_bind, ofOpt, asgV, asgT, asgTs, opV, opD, cmV, cmD, eqD_int, ixV, ixD, slV, biV, seqOf, lstOf, dataOf, cellLst, Py.plain, truth, boolOf, isNone, isTy, bd62, guardOf, wipeE, L2.atI, L2.ixN, Py.finish, e]) rfl
  have b2 : evalT (callF fs (k + 2)) (.or (.cons (.e (.cmp .ne (.call 15 (.cons (.v 0) .nil)) (.v 2))) (.cons (.e (.cmp .eq (.v 2) (.lit (.int 6)))) .nil))) [some (.d (.list xs)), some (.d (.list xs)), some (.d (.int 5)), none, none] st = .ok (false, st) := by simp [execSs, execS, evalE, evalT, evalEs, evalDs, evalN, evalSr, evalAnd, evalOr, evalAndT, evalOrT, evalIfs, evalPo, ok_bind, ofOpt, asgV, asgT, asgTs, opV, opD, cmV, cmD, eqD_int, ixV, ixD, slV, biV, seqOf, lstOf, dataOf, cellLst, Py.plain, truth, boolOf, isNone, isTy, bd62, guardOf, wipeE, L2.atI, L2.ixN, Py.finish, e]
  have b3 : evalT (callF fs (k + 2)) (.e (.cmp .isin (.v 2) (.tup (.cons (.lit (.int 4)) (.cons (.lit (.int 5)) .nil))))) [some (.d (.list xs)), some (.d (.list xs)), some (.d (.int 5)), none, none] st = .ok (true, st) := by simp [execSs, execS, evalE, evalT, evalEs, evalDs, evalN, evalSr, evalAnd, evalOr, evalAndT, evalOrT, evalIfs, evalPo, ok_bind, ofOpt, asgV, asgT, asgTs, opV, opD, cmV, cmD, eqD_int, ixV, ixD, slV, biV, seqOf, lstOf, dataOf, cellLst, Py.plain, truth, boolOf, isNone, isTy, bd62, guardOf, wipeE, L2.atI, L2.ixN, Py.finish, in45', lim2]
  have b4 : evalE (callF fs (k + 2)) (.cmp .eq (.bi .len (.cons (.v 0) .nil)) (.bi .len (.cons (.v 1) .nil))) [some (.d (.list xs)), some (.d (.list xs)), some (.d (.int 5)), none, none] st = .ok (.d (.bool true), st) := by simp [execSs, execS, evalE, evalT, evalEs, evalDs, evalN, evalSr, evalAnd, evalOr, evalAndT, evalOrT, evalIfs, evalPo, ok_bind, ofOpt, asgV, asgT, asgTs, opV, opD, cmV, cmD, eqD_int, ixV, ixD, slV, biV, seqOf, lstOf, dataOf, cellLst, Py.plain, truth, boolOf, isNone, isTy, bd62, guardOf, wipeE, L2.atI, L2.ixN, Py.finish]
  have b5 : evalE (callF fs (k + 2)) (.nw (.disp .nil)) [some (.d (.list xs)), some (.d (.list xs)), some (.d (.int 5)), none, none] st = .ok (.d (.list []), st) := rfl
  rw [show F__law_like.body = _ from rfl]
  refine (congrArg (Py.finish st.length) ((xs_nx b1).trans ((xs_nx ((s_ifF b2).trans xs_nil)).trans (xs_rt ((s_ifT b3).trans (xs_rt (s_ret (e_and.trans ((and_T b4).trans (and_1.trans (e_eqv a2 b5 e3))))))))))).trans ?_
  simp [Py.finish]
end K52

set_option Elab.async false
set_option linter.all false
set_option maxRecDepth 100000
set_option maxHeartbeats 1000000
/-! V52c: what the defs of law_k52 answer: rows by places -/
namespace K52
open Py PySem
theorem ixI (xs : List Int) (i : Nat) (h : i < xs.length) : L2.atI (I xs) (i : Int) = some (.int (xs.getD i 0)) := by
  have h2 : (i : Int) < ((I xs).length : Int) := by simp; omega
  have h3 : (0 : Int) ≤ i := by omega
  unfold L2.atI L2.ixN
  rw [if_pos h3, if_pos h2]
  simp [List.getElem?_eq_getElem h, List.getD_eq_getElem?_getD]
theorem mn_comm (a b : Int) : mn a b = mn b a := by
  unfold mn
  split <;> split <;> omega
theorem few_comm : ∀ xs ys : List Int, few (xs.zip ys) = few (ys.zip xs)
  | [], ys => by cases ys <;> rfl
  | x :: xs, [] => rfl
  | x :: xs, y :: ys => by
    have := few_comm xs ys
    unfold few at this ⊢
    rw [List.zip_cons_cons, List.zip_cons_cons, List.filterMap_cons, List.filterMap_cons, this]
    by_cases h : x = y
    · simp [h]
    · have h2 : ¬ y = x := fun z => h z.symm
      simp [h, h2, mn_comm x y]
theorem cond_comm (k x y : Int) : cond k (x, y) = cond k (y, x) := by
  unfold cond
  rw [show (decide ((x, y).1 ≠ (x, y).2)) = decide ((y, x).1 ≠ (y, x).2) from decide_eq_decide.mpr ⟨fun h z => h z.symm, fun h z => h z.symm⟩, mn_comm (x, y).1 (x, y).2]
theorem keep_comm (k : Int) : ∀ xs ys : List Int, keep (xs.zip ys) k = keep (ys.zip xs) k
  | [], ys => by cases ys <;> rfl
  | x :: xs, [] => rfl
  | x :: xs, y :: ys => by
    have := keep_comm k xs ys
    unfold keep at this ⊢
    rw [List.zip_cons_cons, List.zip_cons_cons, List.all_cons, List.all_cons, this, cond_comm]
section
variable (f g : Nat → Int)
def prs (s n : Nat) : Pr := (List.range' s n).map fun i => (f i, g i)
def dif (i : Nat) : Bool := decide (f i ≠ g i)
def ixs (n : Nat) : List Nat := (List.range n).filter (dif f g)
def low (k : Int) (i : Nat) : Bool := decide (mn (f i) (g i) < k)
theorem part_find (k : Int) : ∀ (n s : Nat), part k s (prs f g s n) = (List.range' s n).find? fun i => cond k (f i, g i)
  | 0, s => rfl
  | n + 1, s => by
    have := part_find k n (s + 1)
    unfold prs at this ⊢
    rw [List.range'_succ, List.map_cons, part, List.find?_cons]
    cases h : cond k (f s, g s) <;> simp [this]
theorem part_head (k : Int) (n : Nat) : part k 0 (prs f g 0 n) = ((ixs f g n).filter (low f g k)).head? := by
  unfold ixs
  rw [part_find, List.filter_filter, List.head?_filter, List.range_eq_range']
  congr 1
  funext i
  simp [cond, dif, low, Bool.and_comm]
theorem few_map (n : Nat) : few (prs f g 0 n) = (ixs f g n).map fun i => mn (f i) (g i) + 1 := by
  unfold few prs ixs
  rw [← List.range_eq_range']
  generalize List.range n = l
  induction l with
  | nil => rfl
  | cons i l ih =>
    rw [List.map_cons, List.filterMap_cons, ih, List.filter_cons]
    by_cases h : f i = g i <;> simp [dif, h]
end
theorem zip_prs : ∀ (xs ys : List Int), xs.length = ys.length → xs.zip ys = prs (fun i => xs.getD i 0) (fun i => ys.getD i 0) 0 xs.length := by
  intro xs ys h
  unfold prs
  apply List.ext_getElem
  · simp [h]
  · intro i h1 h2
    have h3 : i < xs.length := by simp at h1; omega
    have h4 : i < ys.length := by omega
    simp [List.getD_eq_getElem?_getD, List.getElem?_eq_getElem h3, List.getElem?_eq_getElem h4]
/-- the places of unlike counts -/
def N (l : List Nat) : List D := l.map fun i => PyData.int (i : Nat)
theorem scal_N : ∀ l : List Nat, (N l).all scal = true
  | [] => rfl
  | i :: l => by
    have := scal_N l
    unfold N at this ⊢
    simp [scal]
theorem mem_N {l : List Nat} {x : D} (h : x ∈ N l) : ∃ i ∈ l, x = .int (i : Nat) := by
  obtain ⟨i, hi, rfl⟩ := List.mem_map.mp h
  exact ⟨i, hi, rfl⟩
theorem rngD_N (n : Nat) : rngD 0 n = N (List.range n) := by
  rw [rngD_eq]
  unfold N
  simp
theorem N_len (l : List Nat) : (N l).length = l.length := by simp [N]
def nat? : D → Option Nat
  | .int i => some i.toNat
  | _ => none
theorem fm_N (p : Nat → Bool) : ∀ l : List Nat, (N l).filterMap (fun x => match x with
  | .int i => if p i.toNat = true then some (.int i) else none
  | _ => none) = N (l.filter p)
  | [] => rfl
  | i :: l => by
    have ih := fm_N p l
    unfold N at ih ⊢
    rw [List.map_cons, List.filterMap_cons, List.filter_cons, ih]
    by_cases h : p i = true <;> simp [h]
theorem fm_N2 (p : Nat → Int) : ∀ l : List Nat, (N l).filterMap (fun x => match x with
  | .int i => some (.int (p i.toNat))
  | _ => none) = I (l.map p)
  | [] => rfl
  | i :: l => by
    have ih := fm_N2 p l
    unfold N I at ih ⊢
    rw [List.map_cons, List.filterMap_cons, ih]
    simp
theorem minI_mem : ∀ {ns : List Int} {m : Int}, minI ns = some m → m ∈ ns
  | [], m, h => by cases h
  | [a], m, h => by
    cases h
    exact List.mem_cons_self
  | a :: b :: r, m, h => by
    have h : ((minI (b :: r)).map fun b => if a ≤ b then a else b) = some m := h
    cases e : minI (b :: r) with
    | none => rw [e] at h; cases h
    | some c =>
      rw [e] at h
      have hc := minI_mem e
      have h : (if a ≤ c then a else c) = m := Option.some.inj h
      by_cases q : a ≤ c
      · rw [if_pos q] at h
        rw [← h]
        exact List.mem_cons_self
      · rw [if_neg q] at h
        rw [← h]
        exact List.mem_cons_of_mem _ hc
theorem minI_some : ∀ (a : Int) (ns : List Int), ∃ m, minI (a :: ns) = some m
  | a, [] => ⟨_, rfl⟩
  | a, b :: r => by
    obtain ⟨m, hm⟩ := minI_some b r
    exact ⟨_, by simp only [minI, hm]; rfl⟩
theorem ints_of {ys : List D} {lo hi : Int} : (∀ y ∈ ys, ∃ v, y = PyData.int v ∧ lo ≤ v ∧ v ≤ hi) → ∃ vs : List Int, ys = I vs ∧ ∀ v ∈ vs, lo ≤ v ∧ v ≤ hi := by
  induction ys with
  | nil => exact fun _ => ⟨[], rfl, fun v h => nomatch h⟩
  | cons y ys ih =>
    intro h
    obtain ⟨v, rfl, h1⟩ := h y List.mem_cons_self
    obtain ⟨vs, rfl, h2⟩ := ih fun z hz => h z (List.mem_cons_of_mem _ hz)
    exact ⟨v :: vs, rfl, fun u hu => by
      rcases List.mem_cons.mp hu with rfl | hu
      · exact h1
      · exact h2 u hu⟩
end K52

set_option Elab.async false
set_option linter.all false
set_option maxRecDepth 100000
set_option maxHeartbeats 2000000
/-! V52d: _law_right of law_k52 -/
namespace K52
open Py PySem
def CupOk (rest st : Sto) : Prop := ∃ a b, st = cup a b :: rest ∧ 0 ≤ b ∧ b < 2 ^ 32
theorem rollC (k : Nat) (m : Int) {rest st : Sto} (c : CupOk rest st) (h : 0 < m) (h2 : m < 2 ^ 64) :
    ∃ r st', callF fs (k + 1) 13 [.cell 0, .d (.int m)] st = .ok (.d (.int r), st') ∧ 0 ≤ r ∧ r < m ∧ CupOk rest st' := by
  obtain ⟨a, b, rfl, h3, h4⟩ := c
  obtain ⟨r, a', b', e, r0, r1, b0, b1⟩ := roll k a b m rest h h2 h3 h4
  exact ⟨r, _, e, r0, r1, a', b', rfl, b0, b1⟩
theorem someC (k : Nat) (xs : List D) {rest st : Sto} (c : CupOk rest st) (h : 0 < xs.length) (h2 : xs.length < 1000) :
    ∃ x st', callF fs (k + 2) 14 [.cell 0, .d (.list xs)] st = .ok (.d x, st') ∧ x ∈ xs ∧ CupOk rest st' := by
  obtain ⟨a, b, rfl, h3, h4⟩ := c
  obtain ⟨r, a', b', e, r0, b0, b1⟩ := some_ k a b rest xs h h2 h3 h4
  exact ⟨r, _, e, r0, a', b', rfl, b0, b1⟩
theorem pow18 : powOk 10 18 = true := by decide
theorem lim5 : 5 ≤ LIM := by decide
theorem lim3 : 3 ≤ LIM := by decide
abbrev E9 (v1 v2 v3 v4 v5 v6 v7 v8 v9 : Option Val) : En := [some (.cell 0), v1, v2, v3, v4, v5, v6, v7, v8, v9, none, none]
abbrev i' (x : Int) : Option Val := some (.d (.int x))
abbrev t' (xs : List Int) : Option Val := some (.d (.tuple (I xs)))
/-- the draws -/
theorem d_sizes (k : Nat) {rest st : Sto} (c : CupOk rest st) : ∃ (n m : Int) (s1 : Sto), execS (callF fs (k + 2)) (.asg (.tp (.cons (.nm 1) (.cons (.nm 2) .nil))) (.tup (.cons (.bin .add (.lit (.int 1)) (.call 13 (.cons (.v 0) (.cons (.lit (.int 8)) .nil))))
      (.cons (.call 14 (.cons (.v 0) (.cons (.nw (.disp (.cons (.lit (.int 1)) (.cons (.lit (.int 4)) (.cons (.bin .pow (.lit (.int 10)) (.lit (.int 18))) .nil))))) .nil))) .nil)))) (E9 none none none none none none none none none) st = .ok (.nx (E9 (i' n) (i' m) none none none none none none none), s1) ∧
    1 ≤ n ∧ n ≤ 8 ∧ 1 ≤ m ∧ m ≤ 1000000000000000000 ∧ CupOk rest s1 := by
  obtain ⟨r, s1, e1, r0, r1, c1⟩ := rollC (k + 1) 8 c (by decide) (by decide)
  obtain ⟨x, s2, e2, hx, c2⟩ := someC k [.int 1, .int 4, .int 1000000000000000000] c1 (by decide) (by decide)
  have hm : ∃ m : Int, x = .int m ∧ 1 ≤ m ∧ m ≤ 1000000000000000000 := by
    simp only [List.mem_cons, List.not_mem_nil, or_false] at hx
    rcases hx with rfl | rfl | rfl
    · exact ⟨_, rfl, by decide, by decide⟩
    · exact ⟨_, rfl, by decide, by decide⟩
    · exact ⟨_, rfl, by decide, by decide⟩
  obtain ⟨m, rfl, m1, m2⟩ := hm
  refine ⟨1 + r, m, s2, s_asg (x := .d (.tuple [.int (1 + r), .int m])) (e_tup (ds_cons (s1 := s1) (by simp [execSs, execS, evalE, evalT, evalEs, evalDs, evalN, evalSr, evalAnd, evalOr, evalAndT, evalOrT, evalIfs, evalPo, ok_bind, ofOpt, asgV, asgT, asgTs, opV, opD, cmV, cmD, eqD_int, ixV, ixD, slV, biV, seqOf, lstOf, dataOf, cellLst, Py.plain, truth, boolOf, isNone, isTy, bd62, guardOf, wipeE, L2.atI, L2.ixN, Py.finish, e1]) (ds_cons (s1 := s2) (by simp [execSs, execS, evalE, evalT, evalEs, evalDs, evalN, evalSr, evalAnd, evalOr, evalAndT, evalOrT, evalIfs, evalPo, ok_bind, ofOpt, asgV, asgT, asgTs, opV, opD, cmV, cmD, eqD_int, ixV, ixD, slV, biV, seqOf, lstOf, dataOf, cellLst, Py.plain, truth, boolOf, isNone, isTy, bd62, guardOf, wipeE, L2.atI, L2.ixN, Py.finish, pow18, lim3, e2]) ds_nil)) lim2) rfl, by omega, by omega, m1, m2, c2⟩
theorem d_first (k : Nat) {rest st : Sto} (c : CupOk rest st) (n m : Int) (hn : 1 ≤ n) (hn2 : n ≤ 8) (hm : 1 ≤ m) (hm2 : m ≤ 1000000000000000000) : ∃ (xs : List Int) (s1 : Sto),
    execS (callF fs (k + 1)) (.asg (.nm 3) (.bi .tuple (.cons (.nw (.comp (.nm 10) (.rng1 (.v 1)) .nil (.call 13 (.cons (.v 0) (.cons (.bin .add (.v 2) (.lit (.int 1))) .nil))) [10])) .nil))) (E9 (i' n) (i' m) none none none none none none none) st = .ok (.nx (E9 (i' n) (i' m) (t' xs) none none none none none none), s1) ∧
    (xs.length : Int) = n ∧ (∀ v ∈ xs, 0 ≤ v ∧ v ≤ 1000000000000000000) ∧ CupOk rest s1 := by
  obtain ⟨ys, s1, e1, c1, q1⟩ := compL_inv (f := compF (evalIfs (callF fs (k + 1)) .nil) (evalE (callF fs (k + 1)) (.call 13 (.cons (.v 0) (.cons (.bin .add (.v 2) (.lit (.int 1))) .nil)))) (.nm 10) (wipeE (E9 (i' n) (i' m) none none none none none none none) [10]))
    (P := CupOk rest) (Q := fun _ y => ∃ v, y = PyData.int v ∧ 0 ≤ v ∧ v ≤ 1000000000000000000) (xs := rngD 0 n.toNat) (st := st) (fun x hx st c => by
      obtain ⟨r, s1, e1, r0, r1, c1⟩ := rollC k (m + 1) c (by omega) (by omega)
      exact ⟨.int r, s1, cF rfl rfl (by simp [execSs, execS, evalE, evalT, evalEs, evalDs, evalN, evalSr, evalAnd, evalOr, evalAndT, evalOrT, evalIfs, evalPo, ok_bind, ofOpt, asgV, asgT, asgTs, opV, opD, cmV, cmD, eqD_int, ixV, ixD, slV, biV, seqOf, lstOf, dataOf, cellLst, Py.plain, truth, boolOf, isNone, isTy, bd62, guardOf, wipeE, L2.atI, L2.ixN, Py.finish, e1]), c1, r, rfl, r0, by omega⟩) c
  obtain ⟨xs, rfl, hv⟩ := ints_of q1.right
  have hb : bd62 n = true := by
    unfold bd62
    simp only [Bool.and_eq_true, decide_eq_true_eq]
    omega
  have hl := q1.length
  simp only [rngD_N, N_len, List.length_range, I, List.length_map] at hl
  refine ⟨xs, s1, s_asg (x := .d (.tuple (I xs))) (e_bi (xs := [.d (.list (I xs))]) (es_cons (e_nw (n_comp (g := none) (xs := rngD 0 n.toNat) (s1 := st) ?_ ?_ e1)) es_nil) rfl) rfl, by omega, hv, c1⟩
  · simp only [bd62] at hb
    simp [execSs, execS, evalE, evalT, evalEs, evalDs, evalN, evalSr, evalAnd, evalOr, evalAndT, evalOrT, evalIfs, evalPo, ok_bind, ofOpt, asgV, asgT, asgTs, opV, opD, cmV, cmD, eqD_int, ixV, ixD, slV, biV, seqOf, lstOf, dataOf, cellLst, Py.plain, truth, boolOf, isNone, isTy, bd62, guardOf, wipeE, L2.atI, L2.ixN, Py.finish]
    simpa using hb
  · rw [rngD_N, N_len, List.length_range]
    exact Nat.le_trans (show n.toNat ≤ 8 by omega) (by decide)
theorem d_second (k : Nat) {rest st : Sto} (c : CupOk rest st) (n m : Int) (xs : List Int) (hl : xs.length ≤ 8) (hx : ∀ v ∈ xs, 0 ≤ v ∧ v ≤ 1000000000000000000) (hm : 1 ≤ m) (hm2 : m ≤ 1000000000000000000) : ∃ (ys : List Int) (s1 : Sto),
    execS (callF fs (k + 2)) (.asg (.nm 4) (.bi .tuple (.cons (.nw (.comp (.nm 11) (.ex (.v 3)) .nil (.call 14 (.cons (.v 0) (.cons (.nw (.disp (.cons (.v 11) (.cons (.v 11) (.cons (.bi .max2 (.cons (.lit (.int 0)) (.cons (.bin .sub (.v 11) (.lit (.int 1))) .nil)))
      (.cons (.bi .min2 (.cons (.bin .pow (.lit (.int 10)) (.lit (.int 18))) (.cons (.bin .add (.v 11) (.lit (.int 1))) .nil))) (.cons (.call 13 (.cons (.v 0) (.cons (.bin .add (.v 2) (.lit (.int 1))) .nil))) .nil))))))) .nil))) [11])) .nil))) (E9 (i' n) (i' m) (t' xs) none none none none none none) st =
      .ok (.nx (E9 (i' n) (i' m) (t' xs) (t' ys) none none none none none), s1) ∧
    ys.length = xs.length ∧ (∀ v ∈ ys, 0 ≤ v ∧ v ≤ 1000000000000000000) ∧ CupOk rest s1 := by
  obtain ⟨ys, s1, e1, c1, q1⟩ := compL_inv (f := compF (evalIfs (callF fs (k + 2)) .nil) (evalE (callF fs (k + 2)) (.call 14 (.cons (.v 0) (.cons (.nw (.disp (.cons (.v 11) (.cons (.v 11) (.cons (.bi .max2 (.cons (.lit (.int 0)) (.cons (.bin .sub (.v 11) (.lit (.int 1))) .nil)))
      (.cons (.bi .min2 (.cons (.bin .pow (.lit (.int 10)) (.lit (.int 18))) (.cons (.bin .add (.v 11) (.lit (.int 1))) .nil))) (.cons (.call 13 (.cons (.v 0) (.cons (.bin .add (.v 2) (.lit (.int 1))) .nil))) .nil))))))) .nil)))) (.nm 11) (wipeE (E9 (i' n) (i' m) (t' xs) none none none none none none) [11]))
    (P := CupOk rest) (Q := fun _ y => ∃ v, y = PyData.int v ∧ 0 ≤ v ∧ v ≤ 1000000000000000000) (xs := I xs) (st := st) (fun x hx2 st c => by
      obtain ⟨o, ho, rfl⟩ := List.mem_map.mp hx2
      obtain ⟨o1, o2⟩ := hx o ho
      obtain ⟨r, s1, e1, r0, r1, c1⟩ := rollC (k + 1) (m + 1) c (by omega) (by omega)
      obtain ⟨x, s2, e2, hx3, c2⟩ := someC k [.int o, .int o, .int (if o - 1 > 0 then o - 1 else 0), .int (if o + 1 < 1000000000000000000 then o + 1 else 1000000000000000000), .int r] c1 (by simp) (by simp)
      refine ⟨x, s2, cF rfl rfl (by simp only [gt_iff_lt] at e2; simp [execSs, execS, evalE, evalT, evalEs, evalDs, evalN, evalSr, evalAnd, evalOr, evalAndT, evalOrT, evalIfs, evalPo, ok_bind, ofOpt, asgV, asgT, asgTs, opV, opD, cmV, cmD, eqD_int, ixV, ixD, slV, biV, seqOf, lstOf, dataOf, cellLst, Py.plain, truth, boolOf, isNone, isTy, bd62, guardOf, wipeE, L2.atI, L2.ixN, Py.finish, pow18, lim5, e1]; simpa using e2), c2, ?_⟩
      simp only [List.mem_cons, List.not_mem_nil, or_false] at hx3
      rcases hx3 with rfl | rfl | rfl | rfl | rfl
      · exact ⟨_, rfl, o1, o2⟩
      · exact ⟨_, rfl, o1, o2⟩
      · refine ⟨_, rfl, ?_, ?_⟩ <;> split <;> omega
      · refine ⟨_, rfl, ?_, ?_⟩ <;> split <;> omega
      · exact ⟨_, rfl, r0, by omega⟩) c
  obtain ⟨ys, rfl, hv⟩ := ints_of q1.right
  have hl2 := q1.length
  simp only [I, List.length_map] at hl2
  refine ⟨ys, s1, s_asg (x := .d (.tuple (I ys))) (e_bi (xs := [.d (.list (I ys))]) (es_cons (e_nw (n_comp (g := none) (xs := I xs) (s1 := st) ?_ ?_ e1)) es_nil) rfl) rfl, hl2.symm, hv, c1⟩
  · simp [execSs, execS, evalE, evalT, evalEs, evalDs, evalN, evalSr, evalAnd, evalOr, evalAndT, evalOrT, evalIfs, evalPo, ok_bind, ofOpt, asgV, asgT, asgTs, opV, opD, cmV, cmD, eqD_int, ixV, ixD, slV, biV, seqOf, lstOf, dataOf, cellLst, Py.plain, truth, boolOf, isNone, isTy, bd62, guardOf, wipeE, L2.atI, L2.ixN, Py.finish]
  · rw [List.length_map]
    exact Nat.le_trans hl (by decide)
end K52

set_option Elab.async false
set_option linter.all false
set_option maxRecDepth 100000
set_option maxHeartbeats 2000000
/-! V52e: _law_right of law_k52, whole -/
namespace K52
open Py PySem
section
variable (xs ys : List Int)
abbrev fX (i : Nat) : Int := xs.getD i 0
abbrev ux : List Nat := ixs (fX xs) (fX ys) xs.length
theorem ux_lt {i : Nat} (h : i ∈ ux xs ys) : i < xs.length := by
  have := (List.mem_filter.mp h).1
  simpa using this
theorem ux_len : (ux xs ys).length ≤ xs.length := by
  have := List.length_filter_le (dif (fX xs) (fX ys)) (List.range xs.length)
  simpa [ixs] using this
variable {xs ys}
theorem d_unlike (cal : CallF) (n m : Int) (st : Sto) (hl : ys.length = xs.length) (h8 : xs.length ≤ 8) (hn : (xs.length : Int) = n) :
    execS cal (.asg (.nm 5) (.nw (.comp (.nm 10) (.rng1 (.v 1)) (.cons (.e (.cmp .ne (.ix (.v 3) (.v 10)) (.ix (.v 4) (.v 10)))) .nil) (.v 10) [10]))) (E9 (i' n) (i' m) (t' xs) (t' ys) none none none none none) st =
      .ok (.nx (E9 (i' n) (i' m) (t' xs) (t' ys) (some (.d (.list (N (ux xs ys))))) none none none none), st) := by
  have hb : bd62 n = true := by
    unfold bd62
    simp only [Bool.and_eq_true, decide_eq_true_eq]
    omega
  have hs : evalSr cal (.rng1 (.v 1)) (E9 (i' n) (i' m) (t' xs) (t' ys) none none none none none) st = .ok ((rngD 0 n.toNat, none), st) := by
    simp only [bd62] at hb
    simp [execSs, execS, evalE, evalT, evalEs, evalDs, evalN, evalSr, evalAnd, evalOr, evalAndT, evalOrT, evalIfs, evalPo, ok_bind, ofOpt, asgV, asgT, asgTs, opV, opD, cmV, cmD, eqD_int, ixV, ixD, slV, biV, seqOf, lstOf, dataOf, cellLst, Py.plain, truth, boolOf, isNone, isTy, bd62, guardOf, wipeE, L2.atI, L2.ixN, Py.finish]
    simpa using hb
  have hk : n.toNat = xs.length := by omega
  refine s_asg (e_nw (n_comp hs (by rw [rngD_N, N_len, List.length_range]; exact Nat.le_trans (show n.toNat ≤ 8 by omega) (by decide)) ?_)) rfl
  rw [rngD_N, hk, ux, ixs, ← fm_N]
  refine compL_map fun x hx => ?_
  obtain ⟨i, hi, rfl⟩ := mem_N hx
  have hi : i < xs.length := by simpa using hi
  have e1 := ixI xs i hi
  have e2 := ixI ys i (by omega)
  by_cases q : xs.getD i 0 = ys.getD i 0
  · have q' : xs[i]?.getD 0 = ys[i]?.getD 0 := by simpa [List.getD_eq_getElem?_getD] using q
    refine (cF_no rfl (s1 := st) (by simp [execSs, execS, evalE, evalT, evalEs, evalDs, evalN, evalSr, evalAnd, evalOr, evalAndT, evalOrT, evalIfs, evalPo, ok_bind, ofOpt, asgV, asgT, asgTs, opV, opD, cmV, cmD, eqD_int, ixV, ixD, slV, biV, seqOf, lstOf, dataOf, cellLst, Py.plain, truth, boolOf, isNone, isTy, bd62, guardOf, wipeE, Py.finish, e1, e2, q'])).trans ?_
    simp only [Int.toNat_natCast, dif, fX, q]
    simp
  · have q' : ¬ xs[i]?.getD 0 = ys[i]?.getD 0 := by simpa [List.getD_eq_getElem?_getD] using q
    refine (cF rfl (s1 := st) (s2 := st) (y := .int (i : Nat)) (by simp [execSs, execS, evalE, evalT, evalEs, evalDs, evalN, evalSr, evalAnd, evalOr, evalAndT, evalOrT, evalIfs, evalPo, ok_bind, ofOpt, asgV, asgT, asgTs, opV, opD, cmV, cmD, eqD_int, ixV, ixD, slV, biV, seqOf, lstOf, dataOf, cellLst, Py.plain, truth, boolOf, isNone, isTy, bd62, guardOf, wipeE, Py.finish, e1, e2, q']) (by simp [execSs, execS, evalE, evalT, evalEs, evalDs, evalN, evalSr, evalAnd, evalOr, evalAndT, evalOrT, evalIfs, evalPo, ok_bind, ofOpt, asgV, asgT, asgTs, opV, opD, cmV, cmD, eqD_int, ixV, ixD, slV, biV, seqOf, lstOf, dataOf, cellLst, Py.plain, truth, boolOf, isNone, isTy, bd62, guardOf, wipeE, Py.finish])).trans ?_
    simp only [Int.toNat_natCast, dif, fX]
    simp [q']
theorem few_ux (hl : ys.length = xs.length) : few (xs.zip ys) = (ux xs ys).map fun i => mn (fX xs i) (fX ys i) + 1 := by
  rw [zip_prs xs ys hl.symm, few_map]
theorem d_fewest (cal : CallF) (n m : Int) (st : Sto) (hl : ys.length = xs.length) (h8 : xs.length ≤ 8) :
    execS cal (.asg (.nm 6) (.ite (.e (.cmp .ne (.v 5) (.nw (.disp .nil)))) (.bi .min1 (.cons (.nw (.comp (.nm 10) (.ex (.v 5)) .nil (.bin .add (.bi .min2 (.cons (.ix (.v 3) (.v 10)) (.cons (.ix (.v 4) (.v 10)) .nil))) (.lit (.int 1))) [10])) .nil)) (.lit .none)))
      (E9 (i' n) (i' m) (t' xs) (t' ys) (some (.d (.list (N (ux xs ys))))) none none none none) st =
      .ok (.nx (E9 (i' n) (i' m) (t' xs) (t' ys) (some (.d (.list (N (ux xs ys))))) (some (.d (mo (few (xs.zip ys))))) none none none), st) := by
  refine s_asg (x := .d (mo (few (xs.zip ys)))) ?_ rfl
  have e0 := eqD_nil (scal_N (ux xs ys))
  have t0 : evalT cal (.e (.cmp .ne (.v 5) (.nw (.disp .nil)))) (E9 (i' n) (i' m) (t' xs) (t' ys) (some (.d (.list (N (ux xs ys))))) none none none none) st = .ok (!(N (ux xs ys)).isEmpty, st) := t_e (e_nev rfl rfl e0) rfl
  cases hu : (N (ux xs ys)).isEmpty with
  | true =>
    rw [hu] at t0
    have e : ux xs ys = [] := by
      have : N (ux xs ys) = [] := by simpa using hu
      exact List.map_eq_nil_iff.mp this
    refine (e_iteF t0).trans ?_
    rw [few_ux hl, e]
    rfl
  | false =>
    rw [hu] at t0
    refine (e_iteT t0).trans ?_
    have hc : evalN cal (.comp (.nm 10) (.ex (.v 5)) .nil (.bin .add (.bi .min2 (.cons (.ix (.v 3) (.v 10)) (.cons (.ix (.v 4) (.v 10)) .nil))) (.lit (.int 1))) [10]) (E9 (i' n) (i' m) (t' xs) (t' ys) (some (.d (.list (N (ux xs ys))))) none none none none) st = .ok (I (few (xs.zip ys)), st) := by
      refine n_comp (g := none) (xs := N (ux xs ys)) (s1 := st) rfl (by rw [N_len]; exact Nat.le_trans (ux_len xs ys) (Nat.le_trans h8 (by decide))) ?_
      rw [few_ux hl, ← fm_N2]
      refine compL_map fun x hx => ?_
      obtain ⟨i, hi, rfl⟩ := mem_N hx
      have hi := ux_lt xs ys hi
      have e1 := ixI xs i hi
      have e2 := ixI ys i (by omega)
      exact (cF rfl (s1 := st) (s2 := st) (y := .int (mn (xs.getD i 0) (ys.getD i 0) + 1)) rfl (by simp [execSs, execS, evalE, evalT, evalEs, evalDs, evalN, evalSr, evalAnd, evalOr, evalAndT, evalOrT, evalIfs, evalPo, ok_bind, ofOpt, asgV, asgT, asgTs, opV, opD, cmV, cmD, eqD_int, ixV, ixD, slV, biV, seqOf, lstOf, dataOf, cellLst, Py.plain, truth, boolOf, isNone, isTy, bd62, guardOf, wipeE, Py.finish, e1, e2, mn])).trans (by simp)
    obtain ⟨mm, hm⟩ : ∃ mm, minI (few (xs.zip ys)) = some mm := by
      cases hf : few (xs.zip ys) with
      | nil =>
        rw [few_ux hl] at hf
        have : ux xs ys = [] := List.map_eq_nil_iff.mp hf
        rw [this] at hu
        cases hu
      | cons a r => exact minI_some a r
    refine e_bi (es_cons (e_nw hc) es_nil) ?_
    have := intsOf_I (few (xs.zip ys))
    simp [biV, lstOf, this, hm, mo]
abbrev ENV (n m : Int) (xs ys : List Int) (v7 v8 v9 : Option Val) : En := E9 (i' n) (i' m) (t' xs) (t' ys) (some (.d (.list (N (ux xs ys))))) (some (.d (mo (few (xs.zip ys))))) v7 v8 v9
theorem scal_mo (l : List Int) : scal (mo l) = true := by
  unfold mo
  split <;> rfl
theorem scal_oi (c : Option Nat) : scal (oi c) = true := by cases c <;> rfl
theorem d_like (k : Nat) (n m : Int) (st : Sto) (hl : ys.length = xs.length) (hx : Cnt xs) (hy : Cnt ys) :
    evalT (callF fs (k + 5)) (.nt (.e (.call 16 (.cons (.nw (.disp (.cons (.call 10 (.cons (.v 3) (.cons (.v 4) .nil))) (.cons (.call 10 (.cons (.v 4) (.cons (.v 3) .nil))) .nil)))) (.cons (.bin .mul (.nw (.disp (.cons (.v 6) .nil))) (.lit (.int 2))) .nil))))) (ENV n m xs ys none none none) st = .ok (false, st) := by
  have e1 := fewest k xs ys st hx hy hl.symm
  have e2 := fewest k ys xs st hy hx hl
  rw [← few_comm] at e2
  have e3 := like_list (k + 2) [mo (few (xs.zip ys)), mo (few (xs.zip ys))] st (by simp [scal_mo]) (by simp)
  refine t_nt (b := true) (t_e (x := .d (.bool true)) ((e_call (s1 := st) (xs := [.d (.list [mo (few (xs.zip ys)), mo (few (xs.zip ys))]), .d (.list [mo (few (xs.zip ys)), mo (few (xs.zip ys))])]) ?_).trans e3) rfl)
  refine es_cons (e_nw (n_disp (ds_cons (s1 := st) (by simp [execSs, execS, evalE, evalT, evalEs, evalDs, evalN, evalSr, evalAnd, evalOr, evalAndT, evalOrT, evalIfs, evalPo, ok_bind, ofOpt, asgV, asgT, asgTs, opV, opD, cmV, cmD, eqD_int, ixV, ixD, slV, biV, seqOf, lstOf, dataOf, cellLst, Py.plain, truth, boolOf, isNone, isTy, bd62, guardOf, wipeE, L2.atI, L2.ixN, Py.finish, e1]) (ds_cons (s1 := st) (by simp [execSs, execS, evalE, evalT, evalEs, evalDs, evalN, evalSr, evalAnd, evalOr, evalAndT, evalOrT, evalIfs, evalPo, ok_bind, ofOpt, asgV, asgT, asgTs, opV, opD, cmV, cmD, eqD_int, ixV, ixD, slV, biV, seqOf, lstOf, dataOf, cellLst, Py.plain, truth, boolOf, isNone, isTy, bd62, guardOf, wipeE, L2.atI, L2.ixN, Py.finish, e2]) ds_nil)) lim2)) (es_cons (e_bin (e_nw (n_disp (ds_cons rfl ds_nil) (by show 1 ≤ LIM; decide))) rfl ?_) es_nil)
  rfl
/-- one turn -/
theorem d_turn (k : Nat) (n m kk : Int) (st : Sto) (v7 v8 v9 : Option Val) (hl : ys.length = xs.length) (hx : Cnt xs) (hy : Cnt ys) (h0 : 0 ≤ kk) (h1 : kk ≤ 1000000000000000000) :
    ∃ v8' v9', execSs (callF fs (k + 6)) (.cons (.asg (.nm 8) (.nw (.comp (.nm 10) (.ex (.v 5)) (.cons (.e (.cmp .lt (.bi .min2 (.cons (.ix (.v 3) (.v 10)) (.cons (.ix (.v 4) (.v 10)) .nil))) (.v 7))) .nil) (.v 10) [10])))
      (.cons (.asg (.nm 9) (.nw (.disp (.cons (.call 8 (.cons (.v 3) (.cons (.v 4) (.cons (.v 7) .nil)))) (.cons (.call 9 (.cons (.v 3) (.cons (.v 4) (.cons (.v 7) .nil)))) (.cons (.call 8 (.cons (.v 4) (.cons (.v 3) (.cons (.v 7) .nil)))) .nil))))))
      (.cons (.ifs (.nt (.e (.call 16 (.cons (.v 9) (.cons (.nw (.disp (.cons (.call 17 (.cons (.v 3) (.cons (.v 4) (.cons (.v 7) .nil)))) (.cons (.ite (.e (.cmp .ne (.v 8) (.nw (.disp .nil)))) (.ix (.v 8) (.lit (.int 0))) (.lit .none)) (.cons (.call 17 (.cons (.v 3) (.cons (.v 4) (.cons (.v 7) .nil)))) .nil))))) .nil))))) (.cons (.ret (.lit (.bool false))) .nil) .nil) .nil)))
      (ENV n m xs ys (i' kk) v8 v9) st = .ok (.nx (ENV n m xs ys (i' kk) v8' v9'), st) := by
  have hz := zip_prs xs ys hl.symm
  have a1 : execS (callF fs (k + 6)) (.asg (.nm 8) (.nw (.comp (.nm 10) (.ex (.v 5)) (.cons (.e (.cmp .lt (.bi .min2 (.cons (.ix (.v 3) (.v 10)) (.cons (.ix (.v 4) (.v 10)) .nil))) (.v 7))) .nil) (.v 10) [10]))) (ENV n m xs ys (i' kk) v8 v9) st =
      .ok (.nx (ENV n m xs ys (i' kk) (some (.d (.list (N ((ux xs ys).filter (low (fX xs) (fX ys) kk)))))) v9), st) := by
    refine s_asg (e_nw (n_comp (g := none) (xs := N (ux xs ys)) (s1 := st) rfl (by rw [N_len]; exact Nat.le_trans (ux_len xs ys) (Nat.le_trans hx.2.1 (by decide))) ?_)) rfl
    rw [← fm_N]
    refine compL_map fun x hx => ?_
    obtain ⟨i, hi, rfl⟩ := mem_N hx
    have hi := ux_lt xs ys hi
    have e1 := ixI xs i hi
    have e2 := ixI ys i (by omega)
    by_cases q : mn (xs.getD i 0) (ys.getD i 0) < kk
    · have q1 : (if ys.getD i 0 < xs.getD i 0 then ys.getD i 0 else xs.getD i 0) < kk := q
      refine (cF rfl (s1 := st) (s2 := st) (y := .int (i : Nat)) (by simp only [execSs, execS, evalE, evalT, evalEs, evalDs, evalN, evalSr, evalAnd, evalOr, evalAndT, evalOrT, evalIfs, evalPo, ok_bind, ofOpt, asgV, asgT, asgTs, opV, opD, cmV, cmD, eqD_int, ixV, ixD, slV, biV, seqOf, lstOf, dataOf, cellLst, Py.plain, truth, boolOf, isNone, isTy, bd62, guardOf, wipeE, Py.finish]; simp [execSs, execS, evalE, evalT, evalEs, evalDs, evalN, evalSr, evalAnd, evalOr, evalAndT, evalOrT, evalIfs, evalPo, ok_bind, ofOpt, asgV, asgT, asgTs, opV, opD, cmV, cmD, eqD_int, ixV, ixD, slV, biV, seqOf, lstOf, dataOf, cellLst, Py.plain, truth, boolOf, isNone, isTy, bd62, guardOf, wipeE, Py.finish, e1, e2]; simpa using q1) (by simp [execSs, execS, evalE, evalT, evalEs, evalDs, evalN, evalSr, evalAnd, evalOr, evalAndT, evalOrT, evalIfs, evalPo, ok_bind, ofOpt, asgV, asgT, asgTs, opV, opD, cmV, cmD, eqD_int, ixV, ixD, slV, biV, seqOf, lstOf, dataOf, cellLst, Py.plain, truth, boolOf, isNone, isTy, bd62, guardOf, wipeE, Py.finish])).trans ?_
      simp only [Int.toNat_natCast, low, fX, q]
      simp
    · have q1 : ¬ (if ys.getD i 0 < xs.getD i 0 then ys.getD i 0 else xs.getD i 0) < kk := q
      refine (cF_no rfl (s1 := st) (by simp [execSs, execS, evalE, evalT, evalEs, evalDs, evalN, evalSr, evalAnd, evalOr, evalAndT, evalOrT, evalIfs, evalPo, ok_bind, ofOpt, asgV, asgT, asgTs, opV, opD, cmV, cmD, eqD_int, ixV, ixD, slV, biV, seqOf, lstOf, dataOf, cellLst, Py.plain, truth, boolOf, isNone, isTy, bd62, guardOf, wipeE, Py.finish, e1, e2]; simpa using q1)).trans ?_
      simp only [Int.toNat_natCast, low, fX, q]
      simp
  have p1 : part kk 0 (xs.zip ys) = ((ux xs ys).filter (low (fX xs) (fX ys) kk)).head? := by rw [hz, part_head]
  generalize hP : (ux xs ys).filter (low (fX xs) (fX ys) kk) = P at a1 p1
  have e1 := keep_up k xs ys kk st hx hy hl.symm h0 h1
  have e2 := colour k xs ys kk st hx hy hl.symm h0 h1
  have e3 := keep_up k ys xs kk st hy hx hl h0 h1
  rw [← keep_comm] at e3
  have e4 := law_keep (k + 5) xs ys kk st hx.2.1
  have a2 : execS (callF fs (k + 6)) (.asg (.nm 9) (.nw (.disp (.cons (.call 8 (.cons (.v 3) (.cons (.v 4) (.cons (.v 7) .nil)))) (.cons (.call 9 (.cons (.v 3) (.cons (.v 4) (.cons (.v 7) .nil)))) (.cons (.call 8 (.cons (.v 4) (.cons (.v 3) (.cons (.v 7) .nil)))) .nil)))))) (ENV n m xs ys (i' kk) (some (.d (.list (N P)))) v9) st =
      .ok (.nx (ENV n m xs ys (i' kk) (some (.d (.list (N P)))) (some (.d (.list [.bool (keep (xs.zip ys) kk), oi (part kk 0 (xs.zip ys)), .bool (keep (xs.zip ys) kk)])))), st) :=
    s_asg (e_nw (n_disp (ds_cons (s1 := st) (by simp [execSs, execS, evalE, evalT, evalEs, evalDs, evalN, evalSr, evalAnd, evalOr, evalAndT, evalOrT, evalIfs, evalPo, ok_bind, ofOpt, asgV, asgT, asgTs, opV, opD, cmV, cmD, eqD_int, ixV, ixD, slV, biV, seqOf, lstOf, dataOf, cellLst, Py.plain, truth, boolOf, isNone, isTy, bd62, guardOf, wipeE, L2.atI, L2.ixN, Py.finish, e1]) (ds_cons (s1 := st) (by simp [execSs, execS, evalE, evalT, evalEs, evalDs, evalN, evalSr, evalAnd, evalOr, evalAndT, evalOrT, evalIfs, evalPo, ok_bind, ofOpt, asgV, asgT, asgTs, opV, opD, cmV, cmD, eqD_int, ixV, ixD, slV, biV, seqOf, lstOf, dataOf, cellLst, Py.plain, truth, boolOf, isNone, isTy, bd62, guardOf, wipeE, L2.atI, L2.ixN, Py.finish, e2]) (ds_cons (s1 := st) (by simp [execSs, execS, evalE, evalT, evalEs, evalDs, evalN, evalSr, evalAnd, evalOr, evalAndT, evalOrT, evalIfs, evalPo, ok_bind, ofOpt, asgV, asgT, asgTs, opV, opD, cmV, cmD, eqD_int, ixV, ixD, slV, biV, seqOf, lstOf, dataOf, cellLst, Py.plain, truth, boolOf, isNone, isTy, bd62, guardOf, wipeE, L2.atI, L2.ixN, Py.finish, e3]) ds_nil))) lim3)) rfl
  refine ⟨_, _, (xs_nx a1).trans ((xs_nx a2).trans ((xs_nx ((s_ifF ?_).trans xs_nil)).trans xs_nil))⟩
  have e5 := like_list (k + 3) [.bool (keep (xs.zip ys) kk), oi (part kk 0 (xs.zip ys)), .bool (keep (xs.zip ys) kk)] st (by rw [List.all_cons, List.all_cons, List.all_cons, scal_oi]; rfl) (by simp)
  refine t_nt (b := true) (t_e (x := .d (.bool true)) ((e_call (s1 := st) ?_).trans e5) rfl)
  have b2 : evalE (callF fs (k + 6)) (.ite (.e (.cmp .ne (.v 8) (.nw (.disp .nil)))) (.ix (.v 8) (.lit (.int 0))) (.lit .none)) (ENV n m xs ys (i' kk) (some (.d (.list (N P)))) (some (.d (.list [.bool (keep (xs.zip ys) kk), oi (part kk 0 (xs.zip ys)), .bool (keep (xs.zip ys) kk)])))) st = .ok (.d (oi (part kk 0 (xs.zip ys))), st) := by
    have e0 := eqD_nil (scal_N P)
    have t0 : evalT (callF fs (k + 6)) (.e (.cmp .ne (.v 8) (.nw (.disp .nil)))) (ENV n m xs ys (i' kk) (some (.d (.list (N P)))) (some (.d (.list [.bool (keep (xs.zip ys) kk), oi (part kk 0 (xs.zip ys)), .bool (keep (xs.zip ys) kk)])))) st = .ok (!(N P).isEmpty, st) := t_e (e_nev rfl rfl e0) rfl
    rw [p1] at t0 ⊢
    clear a1 a2 e2 e5 p1 hP e0
    cases P with
    | nil => exact (e_iteF t0).trans rfl
    | cons i P =>
      refine (e_iteT t0).trans (e_ix rfl rfl ?_)
      simp [ixV, ixD, seqOf, N, L2.atI, L2.ixN, oi]
  exact es_cons rfl (es_cons (e_nw (n_disp (ds_cons (s1 := st) (by simp [execSs, execS, evalE, evalT, evalEs, evalDs, evalN, evalSr, evalAnd, evalOr, evalAndT, evalOrT, evalIfs, evalPo, ok_bind, ofOpt, asgV, asgT, asgTs, opV, opD, cmV, cmD, eqD_int, ixV, ixD, slV, biV, seqOf, lstOf, dataOf, cellLst, Py.plain, truth, boolOf, isNone, isTy, bd62, guardOf, wipeE, L2.atI, L2.ixN, Py.finish, e4]) (ds_cons b2 (ds_cons (s1 := st) (by simp [execSs, execS, evalE, evalT, evalEs, evalDs, evalN, evalSr, evalAnd, evalOr, evalAndT, evalOrT, evalIfs, evalPo, ok_bind, ofOpt, asgV, asgT, asgTs, opV, opD, cmV, cmD, eqD_int, ixV, ixD, slV, biV, seqOf, lstOf, dataOf, cellLst, Py.plain, truth, boolOf, isNone, isTy, bd62, guardOf, wipeE, L2.atI, L2.ixN, Py.finish, e4]) ds_nil))) lim3)) es_nil)
end
end K52

set_option Elab.async false
set_option linter.all false
set_option maxRecDepth 100000
set_option maxHeartbeats 2000000
/-! V52f: _law_right of law_k52, joined -/
namespace K52
open Py PySem
theorem CupOk.take {rest st st' : Sto} (c : CupOk rest st) (c' : CupOk rest st') : st'.take st.length = st' := by
  obtain ⟨a, b, rfl, _⟩ := c
  obtain ⟨a', b', rfl, _⟩ := c'
  simp
theorem few_bd {xs ys : List Int} (hx : ∀ v ∈ xs, 0 ≤ v ∧ v ≤ 1000000000000000000) (hy : ∀ v ∈ ys, 0 ≤ v ∧ v ≤ 1000000000000000000) : ∀ v ∈ few (xs.zip ys), 1 ≤ v ∧ v ≤ 1000000000000000000 + 1 := by
  intro v hv
  obtain ⟨p, hp, e⟩ := List.mem_filterMap.mp hv
  have h1 := hx _ (List.of_mem_zip hp).1
  have h2 := hy _ (List.of_mem_zip hp).2
  split at e
  · cases e
  · have e := Option.some.inj e
    unfold mn at e
    split at e <;> omega
theorem d_items (k : Nat) {rest st : Sto} (c : CupOk rest st) (n m : Int) (xs ys : List Int) (hx : ∀ v ∈ xs, 0 ≤ v ∧ v ≤ 1000000000000000000) (hy : ∀ v ∈ ys, 0 ≤ v ∧ v ≤ 1000000000000000000) (hm : 1 ≤ m) (hm2 : m ≤ 1000000000000000000) : ∃ (vs : List Int) (s1 : Sto),
    evalSr (callF fs (k + 1)) (.ex (.tup (.cons (.lit (.int 0)) (.cons (.lit (.int 1)) (.cons (.call 13 (.cons (.v 0) (.cons (.bin .add (.v 2) (.lit (.int 1))) .nil))) (.cons (.ite (.and (.cons (.e (.notN (.v 6))) (.cons (.e (.cmp .le (.v 6) (.bin .pow (.lit (.int 10)) (.lit (.int 18))))) .nil))) (.v 6) (.lit (.int 0)))
      (.cons (.ite (.e (.notN (.v 6))) (.bin .sub (.v 6) (.lit (.int 1))) (.bin .pow (.lit (.int 10)) (.lit (.int 18)))) .nil))))))) (ENV n m xs ys none none none) st = .ok ((I vs, none), s1) ∧ (∀ v ∈ vs, 0 ≤ v ∧ v ≤ 1000000000000000000) ∧ CupOk rest s1 := by
  obtain ⟨r, s1, e1, r0, r1, c1⟩ := rollC k (m + 1) c (by omega) (by omega)
  have hf := few_bd hx hy
  have t4 : ∃ v4 v5 : Int, evalE (callF fs (k + 1)) (.ite (.and (.cons (.e (.notN (.v 6))) (.cons (.e (.cmp .le (.v 6) (.bin .pow (.lit (.int 10)) (.lit (.int 18))))) .nil))) (.v 6) (.lit (.int 0))) (ENV n m xs ys none none none) s1 = .ok (.d (.int v4), s1) ∧
      evalE (callF fs (k + 1)) (.ite (.e (.notN (.v 6))) (.bin .sub (.v 6) (.lit (.int 1))) (.bin .pow (.lit (.int 10)) (.lit (.int 18)))) (ENV n m xs ys none none none) s1 = .ok (.d (.int v5), s1) ∧ (0 ≤ v4 ∧ v4 ≤ 1000000000000000000) ∧ 0 ≤ v5 ∧ v5 ≤ 1000000000000000000 := by
    unfold ENV mo
    cases h : minI (few (xs.zip ys)) with
    | none =>
      refine ⟨0, 1000000000000000000, ?_, ?_, by decide, by decide⟩
      · simp [execSs, execS, evalE, evalT, evalEs, evalDs, evalN, evalSr, evalAnd, evalOr, evalAndT, evalOrT, evalIfs, evalPo, ok_bind, ofOpt, asgV, asgT, asgTs, opV, opD, cmV, cmD, eqD_int, ixV, ixD, slV, biV, seqOf, lstOf, dataOf, cellLst, Py.plain, truth, boolOf, isNone, isTy, bd62, guardOf, wipeE, L2.atI, L2.ixN, Py.finish]
      · simp [execSs, execS, evalE, evalT, evalEs, evalDs, evalN, evalSr, evalAnd, evalOr, evalAndT, evalOrT, evalIfs, evalPo, ok_bind, ofOpt, asgV, asgT, asgTs, opV, opD, cmV, cmD, eqD_int, ixV, ixD, slV, biV, seqOf, lstOf, dataOf, cellLst, Py.plain, truth, boolOf, isNone, isTy, bd62, guardOf, wipeE, L2.atI, L2.ixN, Py.finish, pow18]
    | some mm =>
      obtain ⟨b1, b2⟩ := hf mm (minI_mem h)
      by_cases q : mm ≤ 1000000000000000000
      · refine ⟨mm, mm - 1, ?_, ?_, ⟨by omega, q⟩, by omega, by omega⟩
        · simp [execSs, execS, evalE, evalT, evalEs, evalDs, evalN, evalSr, evalAnd, evalOr, evalAndT, evalOrT, evalIfs, evalPo, ok_bind, ofOpt, asgV, asgT, asgTs, opV, opD, cmV, cmD, eqD_int, ixV, ixD, slV, biV, seqOf, lstOf, dataOf, cellLst, Py.plain, truth, boolOf, isNone, isTy, bd62, guardOf, wipeE, L2.atI, L2.ixN, Py.finish, pow18, q]
        · simp [execSs, execS, evalE, evalT, evalEs, evalDs, evalN, evalSr, evalAnd, evalOr, evalAndT, evalOrT, evalIfs, evalPo, ok_bind, ofOpt, asgV, asgT, asgTs, opV, opD, cmV, cmD, eqD_int, ixV, ixD, slV, biV, seqOf, lstOf, dataOf, cellLst, Py.plain, truth, boolOf, isNone, isTy, bd62, guardOf, wipeE, L2.atI, L2.ixN, Py.finish]
      · refine ⟨0, mm - 1, ?_, ?_, by decide, by omega, by omega⟩
        · simp [execSs, execS, evalE, evalT, evalEs, evalDs, evalN, evalSr, evalAnd, evalOr, evalAndT, evalOrT, evalIfs, evalPo, ok_bind, ofOpt, asgV, asgT, asgTs, opV, opD, cmV, cmD, eqD_int, ixV, ixD, slV, biV, seqOf, lstOf, dataOf, cellLst, Py.plain, truth, boolOf, isNone, isTy, bd62, guardOf, wipeE, L2.atI, L2.ixN, Py.finish, pow18, q]
        · simp [execSs, execS, evalE, evalT, evalEs, evalDs, evalN, evalSr, evalAnd, evalOr, evalAndT, evalOrT, evalIfs, evalPo, ok_bind, ofOpt, asgV, asgT, asgTs, opV, opD, cmV, cmD, eqD_int, ixV, ixD, slV, biV, seqOf, lstOf, dataOf, cellLst, Py.plain, truth, boolOf, isNone, isTy, bd62, guardOf, wipeE, L2.atI, L2.ixN, Py.finish]
  obtain ⟨v4, v5, h4, h5, b4, b5⟩ := t4
  refine ⟨[0, 1, r, v4, v5], s1, ?_, ?_, c1⟩
  · have : evalE (callF fs (k + 1)) (.tup (.cons (.lit (.int 0)) (.cons (.lit (.int 1)) (.cons (.call 13 (.cons (.v 0) (.cons (.bin .add (.v 2) (.lit (.int 1))) .nil))) (.cons (.ite (.and (.cons (.e (.notN (.v 6))) (.cons (.e (.cmp .le (.v 6) (.bin .pow (.lit (.int 10)) (.lit (.int 18))))) .nil))) (.v 6) (.lit (.int 0)))
        (.cons (.ite (.e (.notN (.v 6))) (.bin .sub (.v 6) (.lit (.int 1))) (.bin .pow (.lit (.int 10)) (.lit (.int 18)))) .nil)))))) (ENV n m xs ys none none none) st = .ok (.d (.tuple (I [0, 1, r, v4, v5])), s1) :=
      e_tup (ds_cons rfl (ds_cons rfl (ds_cons (s1 := s1) (by simp [execSs, execS, evalE, evalT, evalEs, evalDs, evalN, evalSr, evalAnd, evalOr, evalAndT, evalOrT, evalIfs, evalPo, ok_bind, ofOpt, asgV, asgT, asgTs, opV, opD, cmV, cmD, eqD_int, ixV, ixD, slV, biV, seqOf, lstOf, dataOf, cellLst, Py.plain, truth, boolOf, isNone, isTy, bd62, guardOf, wipeE, L2.atI, L2.ixN, Py.finish, e1]) (ds_cons h4 (ds_cons h5 ds_nil))))) lim5
    rw [evalSr, this]
    rfl
  · intro v hv
    simp only [List.mem_cons, List.not_mem_nil, or_false] at hv
    rcases hv with rfl | rfl | rfl | rfl | rfl
    · exact ⟨by decide, by decide⟩
    · exact ⟨by decide, by decide⟩
    · exact ⟨r0, by omega⟩
    · exact b4
    · exact b5
theorem law_right (k : Nat) {rest st : Sto} (c : CupOk rest st) : ∃ st', callF fs (k + 8) 18 [.cell 0] st = .ok (.d (.bool true), st') ∧ CupOk rest st' := by
  obtain ⟨n, m, s1, a1, n1, n2, m1, m2, c1⟩ := d_sizes (k + 5) c
  obtain ⟨xs, s2, a2, lx, hx, c2⟩ := d_first (k + 6) c1 n m n1 n2 m1 m2
  have l8 : xs.length ≤ 8 := by omega
  obtain ⟨ys, s3, a3, ly, hy, c3⟩ := d_second (k + 5) c2 n m xs l8 hx m1 m2
  have a4 := d_unlike (callF fs (k + 7)) n m s3 ly l8 lx
  have a5 := d_fewest (callF fs (k + 7)) n m s3 ly l8
  have cx : Cnt xs := ⟨by omega, l8, hx⟩
  have cy : Cnt ys := ⟨by omega, by omega, hy⟩
  have a6 := d_like (k + 2) n m s3 ly cx cy
  obtain ⟨vs, s4, a7, hv, c4⟩ := d_items (k + 6) c3 n m xs ys hx hy m1 m2
  obtain ⟨env, s5, a8, v7, v8, v9, e9, es⟩ := forL_inv (f := forF (execSs (callF fs (k + 7)) (.cons (.asg (.nm 8) (.nw (.comp (.nm 10) (.ex (.v 5)) (.cons (.e (.cmp .lt (.bi .min2 (.cons (.ix (.v 3) (.v 10)) (.cons (.ix (.v 4) (.v 10)) .nil))) (.v 7))) .nil) (.v 10) [10])))
      (.cons (.asg (.nm 9) (.nw (.disp (.cons (.call 8 (.cons (.v 3) (.cons (.v 4) (.cons (.v 7) .nil)))) (.cons (.call 9 (.cons (.v 3) (.cons (.v 4) (.cons (.v 7) .nil)))) (.cons (.call 8 (.cons (.v 4) (.cons (.v 3) (.cons (.v 7) .nil)))) .nil))))))
      (.cons (.ifs (.nt (.e (.call 16 (.cons (.v 9) (.cons (.nw (.disp (.cons (.call 17 (.cons (.v 3) (.cons (.v 4) (.cons (.v 7) .nil)))) (.cons (.ite (.e (.cmp .ne (.v 8) (.nw (.disp .nil)))) (.ix (.v 8) (.lit (.int 0))) (.lit .none)) (.cons (.call 17 (.cons (.v 3) (.cons (.v 4) (.cons (.v 7) .nil)))) .nil))))) .nil))))) (.cons (.ret (.lit (.bool false))) .nil) .nil) .nil)))) (.nm 7))
    (I := fun env s => ∃ v7 v8 v9, env = ENV n m xs ys v7 v8 v9 ∧ s = s4) (xs := I vs) (env := ENV n m xs ys none none none) (st := s4) (fun x hx2 env s ⟨v7, v8, v9, e, es⟩ => by
      subst e es
      obtain ⟨kk, hk, rfl⟩ := List.mem_map.mp hx2
      obtain ⟨k0, k1⟩ := hv kk hk
      obtain ⟨v8', v9', e⟩ := d_turn (k + 1) n m kk s v7 v8 v9 ly cx cy k0 k1
      exact ⟨_, s, (fF rfl).trans e, _, _, _, rfl, rfl⟩) ⟨_, _, _, rfl, rfl⟩
  subst e9 es
  refine ⟨s5, (call_body (F := F__law_right) rfl rfl ((xs_nx a1).trans ((xs_nx a2).trans ((xs_nx a3).trans ((xs_nx a4).trans ((xs_nx a5).trans ((xs_nx ((s_ifF a6).trans xs_nil)).trans ((xs_nx ((s_for a7).trans a8)).trans (xs_rt (s_ret rfl)))))))))).trans ?_, c4⟩
  rw [c.take c4]
end K52

set_option Elab.async false
set_option linter.all false
set_option maxRecDepth 100000
set_option maxHeartbeats 2000000
/-! V52g: _law_kinds_right of law_k52 -/
namespace K52
open Py PySem
/-! ### found * (k + 1), again and again -/
theorem mul_loop (cal : CallF) (kk : Int) (v0 : Option Val) (st : Sto) (h : 0 ≤ kk) (h2 : kk ≤ 1000000000000000000) : ∀ (n : Nat) (lo f : Int) (v : Option Val), ∃ v', forL (forF (execSs cal (.cons (.asg (.nm 2) (.bin .mul (.v 2) (.bin .add (.v 1) (.lit (.int 1))))) .nil)) (.nm 3)) none (rngD lo n) [v0, i' kk, i' f, v] st =
    .ok (.nx [v0, i' kk, i' (f * (kk + 1) ^ n), v'], st)
  | 0, lo, f, v => ⟨v, by simp [rngD, forL]⟩
  | n + 1, lo, f, v => by
    obtain ⟨v', ih⟩ := mul_loop cal kk v0 st h h2 n (lo + 1) (f * (kk + 1)) (i' lo)
    have hm : mulOk f (kk + 1) = true := mul_ok' (by omega) (by omega)
    refine ⟨v', (forL_nx (s1 := st) (e1 := [v0, i' kk, i' (f * (kk + 1)), i' lo]) ((fF rfl).trans ?_)).trans (ih.trans ?_)⟩
    · simp [execSs, execS, evalE, evalT, evalEs, evalDs, evalN, evalSr, evalAnd, evalOr, evalAndT, evalOrT, evalIfs, evalPo, ok_bind, ofOpt, asgV, asgT, asgTs, opV, opD, cmV, cmD, eqD_int, ixV, ixD, slV, biV, seqOf, lstOf, dataOf, cellLst, Py.plain, truth, boolOf, isNone, isTy, bd62, guardOf, wipeE, L2.atI, L2.ixN, Py.finish, hm]
    · rw [Int.pow_succ, Int.mul_assoc, Int.mul_comm (kk + 1)]
theorem count_kinds (k : Nat) (c kk : Int) (st : Sto) (c1 : 1 ≤ c) (c2 : c ≤ 8) (h : 0 ≤ kk) (h2 : kk ≤ 1000000000000000000) : callF fs (k + 3) 11 [.d (.int c), .d (.int kk)] st = .ok (.d (.int ((kk + 1) ^ c.toNat)), st) := by
  have e1 := need_whole k c 1 8 st c1 c2
  have e2 := need_whole k kk 0 1000000000000000000 st h h2
  obtain ⟨v', e3⟩ := mul_loop (callF fs (k + 2)) kk (i' c) st h h2 c.toNat 0 1 none
  have hb : bd62 c = true := by
    unfold bd62
    simp only [Bool.and_eq_true, decide_eq_true_eq]
    omega
  have hs : evalSr (callF fs (k + 2)) (.rng1 (.v 0)) [i' c, i' kk, i' 1, none] st = .ok ((rngD 0 c.toNat, none), st) := by
    simp only [bd62] at hb
    simp [execSs, execS, evalE, evalT, evalEs, evalDs, evalN, evalSr, evalAnd, evalOr, evalAndT, evalOrT, evalIfs, evalPo, ok_bind, ofOpt, asgV, asgT, asgTs, opV, opD, cmV, cmD, eqD_int, ixV, ixD, slV, biV, seqOf, lstOf, dataOf, cellLst, Py.plain, truth, boolOf, isNone, isTy, bd62, guardOf, wipeE, L2.atI, L2.ixN, Py.finish]
    simpa using hb
  have a1 : execS (callF fs (k + 2)) (.expr (.call 1 (.cons (.v 0) (.cons (.lit (.int 1)) (.cons (.gl "COLOURS" (.int 8)) .nil))))) [i' c, i' kk, none, none] st = .ok (.nx [i' c, i' kk, none, none], st) := s_expr (x := .d .none) (by simp [execSs, execS, evalE, evalT, evalEs, evalDs, evalN, evalSr, evalAnd, evalOr, evalAndT, evalOrT, evalIfs, evalPo, ok_bind, ofOpt, asgV, asgT, asgTs, opV, opD, cmV, cmD, eqD_int, ixV, ixD, slV, biV, seqOf, lstOf, dataOf, cellLst, Py.plain, truth, boolOf, isNone, isTy, bd62, guardOf, wipeE, L2.atI, L2.ixN, Py.finish, e1])
  have a2 : execS (callF fs (k + 2)) (.expr (.call 1 (.cons (.v 1) (.cons (.lit (.int 0)) (.cons (.gl "GREAT" (.int 1000000000000000000)) .nil))))) [i' c, i' kk, none, none] st = .ok (.nx [i' c, i' kk, none, none], st) := s_expr (x := .d .none) (by simp [execSs, execS, evalE, evalT, evalEs, evalDs, evalN, evalSr, evalAnd, evalOr, evalAndT, evalOrT, evalIfs, evalPo, ok_bind, ofOpt, asgV, asgT, asgTs, opV, opD, cmV, cmD, eqD_int, ixV, ixD, slV, biV, seqOf, lstOf, dataOf, cellLst, Py.plain, truth, boolOf, isNone, isTy, bd62, guardOf, wipeE, L2.atI, L2.ixN, Py.finish, e2])
  rw [Int.one_mul] at e3
  exact (call_body (F := F_count_kinds) rfl rfl ((xs_nx a1).trans ((xs_nx a2).trans ((xs_nx (s_asg rfl rfl)).trans ((xs_nx ((s_for hs).trans e3)).trans (xs_rt (s_ret rfl))))))).trans (by rw [take_self])
abbrev E8 (v1 v2 v3 v4 v5 v6 v7 v8 v9 : Option Val) : En := [some (.cell 0), v1, v2, v3, v4, v5, v6, v7, v8, v9, none]
theorem due_loop (cal : CallF) (gg : Int) (v1 v2 v3 v5 v6 v7 : Option Val) (st : Sto) (h : 0 ≤ gg) (h2 : gg ≤ 1000000000000000000) : ∀ (n : Nat) (lo f : Int) (v : Option Val), ∃ v', forL (forF (execSs cal (.cons (.asg (.nm 9) (.bin .mul (.v 9) (.bin .add (.v 8) (.lit (.int 1))))) .nil)) (.nm 4)) none (rngD lo n) (E8 v1 v2 v3 v v5 v6 v7 (i' gg) (i' f)) st =
    .ok (.nx (E8 v1 v2 v3 v' v5 v6 v7 (i' gg) (i' (f * (gg + 1) ^ n))), st)
  | 0, lo, f, v => ⟨v, by simp [rngD, forL]⟩
  | n + 1, lo, f, v => by
    obtain ⟨v', ih⟩ := due_loop cal gg v1 v2 v3 v5 v6 v7 st h h2 n (lo + 1) (f * (gg + 1)) (i' lo)
    have hm : mulOk f (gg + 1) = true := mul_ok' (by omega) (by omega)
    refine ⟨v', (forL_nx (s1 := st) (e1 := E8 v1 v2 v3 (i' lo) v5 v6 v7 (i' gg) (i' (f * (gg + 1)))) ((fF rfl).trans ?_)).trans (ih.trans ?_)⟩
    · simp [execSs, execS, evalE, evalT, evalEs, evalDs, evalN, evalSr, evalAnd, evalOr, evalAndT, evalOrT, evalIfs, evalPo, ok_bind, ofOpt, asgV, asgT, asgTs, opV, opD, cmV, cmD, eqD_int, ixV, ixD, slV, biV, seqOf, lstOf, dataOf, cellLst, Py.plain, truth, boolOf, isNone, isTy, bd62, guardOf, wipeE, L2.atI, L2.ixN, Py.finish, hm]
    · rw [Int.pow_succ, Int.mul_assoc, Int.mul_comm (gg + 1)]
/-! ### kinds, one by one -/
abbrev T (r : List Int) : D := .tuple (I r)
def grow (k : Int) : List (List Int) → List (List Int) → List (List Int)
  | ks, [] => ks
  | ks, r :: rs => grow k (if (ks.all fun o => !keep (o.zip r) k) = true then ks ++ [r] else ks) rs
theorem sames_I : ∀ xs : List Int, sames (I xs) (I xs) = true
  | [] => rfl
  | x :: xs => by
    have := sames_I xs
    simp only [I] at this
    simp [sames, same, this]
theorem sames_T : ∀ ks : List (List Int), sames (ks.map T) (ks.map T) = true
  | [] => rfl
  | r :: ks => by
    have := sames_T ks
    have h2 := sames_I r
    simp only [List.map_cons, sames, same, this, h2, Bool.and_self]
/-- a comprehension over a cell that stays as it is -/
theorem compL_cell {f : D → Sto → R (Option D × Sto)} {h : D → Option D} {st : Sto} {i : Nat} (hg : guardOk (some i) st st = true) : ∀ {xs : List D}, (∀ x ∈ xs, f x st = .ok (h x, st)) → compL f (some i) xs st = .ok (xs.filterMap h, st)
  | [], _ => rfl
  | x :: xs, e => by
    unfold compL
    rw [e x List.mem_cons_self]
    simp only [hg, if_true]
    rw [compL_cell hg fun y hy => e y (List.mem_cons_of_mem _ hy)]
    simp only [List.filterMap_cons]
    cases h x <;> rfl
def hK (k : Int) (r : List Int) : List Int → Option D := fun o => if keep (o.zip r) k = true then some (.int 1) else none
def unI : List D → List Int
  | [] => []
  | .int i :: r => i :: unI r
  | _ => []
theorem unI_I : ∀ xs : List Int, unI (I xs) = xs
  | [] => rfl
  | x :: xs => by
    have := unI_I xs
    simp only [I] at this
    simp [unI, this]
theorem fmK (k : Int) (r : List Int) : ∀ ks : List (List Int), (((ks.map T).filterMap fun x => match x with
  | .tuple o => hK k r (unI o)
  | _ => none).all scal = true) ∧ ((ks.map T).filterMap fun x => match x with
  | .tuple o => hK k r (unI o)
  | _ => none).isEmpty = ks.all fun o => !keep (o.zip r) k
  | [] => ⟨rfl, rfl⟩
  | o :: ks => by
    obtain ⟨a, b⟩ := fmK k r ks
    rw [List.map_cons, List.filterMap_cons]
    simp only [unI_I]
    have e : hK k r o = if keep (o.zip r) k = true then some (.int 1) else none := rfl
    rw [e]
    cases h : keep (o.zip r) k with
    | true => exact ⟨by simpa [scal] using a, by simp [h]⟩
    | false => exact ⟨a, by rw [List.all_cons, h]; exact b⟩
abbrev kbody : Stms := .cons (.ifs (.e (.cmp .eq (.nw (.comp (.nm 10) (.ex (.v 7)) (.cons (.e (.call 17 (.cons (.v 10) (.cons (.v 6) (.cons (.v 2) .nil))))) .nil) (.lit (.int 1)) [10])) (.nw (.disp .nil)))) (.cons (.expr (.append (.v 7) (.v 6))) .nil) .nil) .nil
theorem kinds_loop (k : Nat) (kk : Int) (cp : Cell) (v1 v3 v4 v5 : Option Val) : ∀ (rs ks : List (List Int)) (v6 : Option Val), (∀ o ∈ ks, o.length ≤ 8) → (∀ o ∈ rs, o.length ≤ 8) → ks.length + rs.length ≤ 1000 →
    ∃ v6', forL (forF (execSs (callF fs (k + 1)) kbody) (.nm 6)) none (rs.map T) (E8 v1 (i' kk) v3 v4 v5 v6 (some (.cell 1)) none none) [cp, .lst (ks.map T)] =
      .ok (.nx (E8 v1 (i' kk) v3 v4 v5 v6' (some (.cell 1)) none none), [cp, .lst ((grow kk ks rs).map T)])
  | [], ks, v6, _, _, _ => ⟨v6, rfl⟩
  | r :: rs, ks, v6, hk, hr, hl => by
    have hc : evalE (callF fs (k + 1)) (.nw (.comp (.nm 10) (.ex (.v 7)) (.cons (.e (.call 17 (.cons (.v 10) (.cons (.v 6) (.cons (.v 2) .nil))))) .nil) (.lit (.int 1)) [10])) (E8 v1 (i' kk) v3 v4 v5 (some (.d (T r))) (some (.cell 1)) none none) [cp, .lst (ks.map T)] =
        .ok (.d (.list ((ks.map T).filterMap fun x => match x with
          | .tuple o => hK kk r (unI o)
          | _ => none)), [cp, .lst (ks.map T)]) := by
      refine e_nw (n_comp (g := some 1) (xs := ks.map T) (s1 := [cp, .lst (ks.map T)]) rfl ?_ (compL_cell ?_ fun x hx => ?_))
      · rw [List.length_map]
        exact Nat.le_trans (show ks.length ≤ 1000 by simp at hl; omega) (by decide)
      · show sames (ks.map T) (ks.map T) = true
        exact sames_T ks
      · obtain ⟨o, ho, rfl⟩ := List.mem_map.mp hx
        have e := law_keep k o r kk [cp, .lst (ks.map T)] (hk o ho)
        simp only [unI_I]
        unfold hK
        cases q : keep (o.zip r) kk with
        | true =>
          rw [q] at e
          exact cF (s1 := [cp, .lst (ks.map T)]) rfl (by simp [execSs, execS, evalE, evalT, evalEs, evalDs, evalN, evalSr, evalAnd, evalOr, evalAndT, evalOrT, evalIfs, evalPo, ok_bind, ofOpt, asgV, asgT, asgTs, opV, opD, cmV, cmD, eqD_int, ixV, ixD, slV, biV, seqOf, lstOf, dataOf, cellLst, Py.plain, truth, boolOf, isNone, isTy, bd62, guardOf, wipeE, L2.atI, L2.ixN, Py.finish, e]) rfl
        | false =>
          rw [q] at e
          exact cF_no rfl (by simp [execSs, execS, evalE, evalT, evalEs, evalDs, evalN, evalSr, evalAnd, evalOr, evalAndT, evalOrT, evalIfs, evalPo, ok_bind, ofOpt, asgV, asgT, asgTs, opV, opD, cmV, cmD, eqD_int, ixV, ixD, slV, biV, seqOf, lstOf, dataOf, cellLst, Py.plain, truth, boolOf, isNone, isTy, bd62, guardOf, wipeE, L2.atI, L2.ixN, Py.finish, e])
    obtain ⟨f1, f2⟩ := fmK kk r ks
    have e0 := eqD_nil f1
    rw [f2] at e0
    have t0 := t_e (e_eqv hc (b := .nw (.disp .nil)) rfl e0) rfl
    unfold grow
    cases q : (ks.all fun o => !keep (o.zip r) kk) with
    | true =>
      rw [q] at t0
      obtain ⟨v6', ih⟩ := kinds_loop k kk cp v1 v3 v4 v5 rs (ks ++ [r]) (some (.d (T r))) (fun o ho => by
        rcases List.mem_append.mp ho with ho | ho
        · exact hk o ho
        · rw [List.mem_singleton.mp ho]
          exact hr r List.mem_cons_self) (fun o ho => hr o (List.mem_cons_of_mem _ ho)) (by simp at hl ⊢; omega)
      refine ⟨v6', (forL_nx (s1 := [cp, .lst ((ks ++ [r]).map T)]) (e1 := E8 v1 (i' kk) v3 v4 v5 (some (.d (T r))) (some (.cell 1)) none none) ((fF rfl).trans ((xs_nx ((s_ifT t0).trans ((xs_nx (s_expr (x := .d .none) ?_)).trans xs_nil))).trans xs_nil))).trans ?_⟩
      · have hlim : (ks.map T).length < LIM := by
          rw [List.length_map]
          exact Nat.lt_of_lt_of_le (show ks.length < 1001 by simp at hl; omega) (by decide)
        have hlim2 : ks.length < LIM := by simpa using hlim
        simp [execSs, execS, evalE, evalT, evalEs, evalDs, evalN, evalSr, evalAnd, evalOr, evalAndT, evalOrT, evalIfs, evalPo, ok_bind, ofOpt, asgV, asgT, asgTs, opV, opD, cmV, cmD, eqD_int, ixV, ixD, slV, biV, seqOf, lstOf, dataOf, cellLst, Py.plain, truth, boolOf, isNone, isTy, bd62, guardOf, wipeE, L2.atI, L2.ixN, Py.finish, hlim2]
      · rw [if_pos rfl]
        exact ih
    | false =>
      rw [q] at t0
      obtain ⟨v6', ih⟩ := kinds_loop k kk cp v1 v3 v4 v5 rs ks (some (.d (T r))) hk (fun o ho => hr o (List.mem_cons_of_mem _ ho)) (by simp at hl ⊢; omega)
      refine ⟨v6', (forL_nx (s1 := [cp, .lst (ks.map T)]) (e1 := E8 v1 (i' kk) v3 v4 v5 (some (.d (T r))) (some (.cell 1)) none none) ((fF rfl).trans ((xs_nx ((s_ifF t0).trans xs_nil)).trans xs_nil))).trans ?_⟩
      rw [if_neg (by decide)]
      exact ih
end K52

set_option Elab.async false
set_option linter.all false
set_option maxRecDepth 100000
set_option maxHeartbeats 4000000
/-! V52h: _law_kinds_right of law_k52, joined -/
namespace K52
open Py PySem
def rows (k : Int) : Nat → List (List Int)
  | 0 => [[]]
  | c + 1 => (rows k c).flatMap fun r => (List.range (k + 3).toNat).map fun (i : Nat) => r ++ [Int.ofNat i]
abbrev rowsD (k : Int) (c : Nat) : Option Val := some (.d (.list ((rows k c).map T)))
theorem every_loop (cal : CallF) (a b : Int) (c : Nat) (kk : Int) (hc : c = 1 ∨ c = 2 ∨ c = 3) (hk : kk = 0 ∨ kk = 1 ∨ kk = 2 ∨ kk = 3) :
    execS cal (.for_ (.nm 4) (.rng1 (.v 1)) (.cons (.asg (.nm 5) (.nw (.disp .nil))) (.cons (.for_ (.nm 6) (.ex (.v 3)) (.cons (.asg (.nm 5) (.bin .add (.v 5) (.nw (.comp (.nm 10) (.rng1 (.bin .add (.v 2) (.lit (.int 3)))) .nil (.bin .add (.v 6) (.tup (.cons (.v 10) .nil))) [10])))) .nil)) (.cons (.asg (.nm 3) (.v 5)) .nil))))
      (E8 (i' c) (i' kk) (some (.d (.list [.tuple []]))) none none none none none none) [cup a b] =
      .ok (.nx (E8 (i' c) (i' kk) (rowsD kk c) (i' (c - 1)) (rowsD kk c) (some (.d (T ((rows kk (c - 1)).getLastD [])))) none none none), [cup a b]) := by
  rcases hc with rfl | rfl | rfl <;> rcases hk with rfl | rfl | rfl | rfl <;> kernel_rfl
theorem grow_len (c : Nat) (kk : Int) (hc : c = 1 ∨ c = 2 ∨ c = 3) (hk : kk = 0 ∨ kk = 1 ∨ kk = 2 ∨ kk = 3) :
    ((grow kk [] (rows kk c)).length : Int) = (kk + 1) ^ c ∧ (∀ o ∈ rows kk c, o.length ≤ 8) ∧ (rows kk c).length ≤ 1000 := by
  rcases hc with rfl | rfl | rfl <;> rcases hk with rfl | rfl | rfl | rfl <;> decide +kernel
theorem kinds_right (k : Nat) {st : Sto} (c : CupOk [] st) : ∃ st', callF fs (k + 4) 19 [.cell 0] st = .ok (.d (.bool true), st') ∧ CupOk [] st' := by
  obtain ⟨r, s1, e1, r0, r1, c1⟩ := rollC (k + 2) 3 c (by decide) (by decide)
  obtain ⟨q, s2, e2, q0, q1, c2⟩ := rollC (k + 2) 4 c1 (by decide) (by decide)
  obtain ⟨n, hn, hn3⟩ : ∃ n : Nat, (n : Int) = 1 + r ∧ (n = 1 ∨ n = 2 ∨ n = 3) := ⟨(1 + r).toNat, by omega, by omega⟩
  have hq : q = 0 ∨ q = 1 ∨ q = 2 ∨ q = 3 := by omega
  have a1 : execS (callF fs (k + 3)) (.asg (.tp (.cons (.nm 1) (.cons (.nm 2) .nil))) (.tup (.cons (.bin .add (.lit (.int 1)) (.call 13 (.cons (.v 0) (.cons (.lit (.int 3)) .nil)))) (.cons (.call 13 (.cons (.v 0) (.cons (.lit (.int 4)) .nil))) .nil)))) (E8 none none none none none none none none none) st =
      .ok (.nx (E8 (i' n) (i' q) none none none none none none none), s2) := by
    rw [hn]
    exact s_asg (x := .d (.tuple [.int (1 + r), .int q])) (e_tup (ds_cons (s1 := s1) (by simp [execSs, execS, evalE, evalT, evalEs, evalDs, evalN, evalSr, evalAnd, evalOr, evalAndT, evalOrT, evalIfs, evalPo, ok_bind, ofOpt, asgV, asgT, asgTs, opV, opD, cmV, cmD, eqD_int, ixV, ixD, slV, biV, seqOf, lstOf, dataOf, cellLst, Py.plain, truth, boolOf, isNone, isTy, bd62, guardOf, wipeE, L2.atI, L2.ixN, Py.finish, e1]) (ds_cons (s1 := s2) (by simp [execSs, execS, evalE, evalT, evalEs, evalDs, evalN, evalSr, evalAnd, evalOr, evalAndT, evalOrT, evalIfs, evalPo, ok_bind, ofOpt, asgV, asgT, asgTs, opV, opD, cmV, cmD, eqD_int, ixV, ixD, slV, biV, seqOf, lstOf, dataOf, cellLst, Py.plain, truth, boolOf, isNone, isTy, bd62, guardOf, wipeE, L2.atI, L2.ixN, Py.finish, e2]) ds_nil)) lim2) rfl
  obtain ⟨a, b, rfl, b0, b1⟩ := c2
  obtain ⟨g1, g2, g3⟩ := grow_len n q hn3 hq
  have a3 := every_loop (callF fs (k + 3)) a b n q hn3 hq
  obtain ⟨v6, a5⟩ := kinds_loop (k + 2) q (cup a b) (i' n) (rowsD q n) (i' (n - 1)) (rowsD q n) (rows q n) [] (some (.d (T ((rows q (n - 1)).getLastD [])))) (fun o h => nomatch h) g2 (by simpa using g3)
  generalize hG : grow q [] (rows q n) = G at a5 g1
  have cG : CupOk [.lst (G.map T)] [cup a b, .lst (G.map T)] := ⟨a, b, rfl, b0, b1⟩
  obtain ⟨gr, s4, e4, gr0, gr1, c4⟩ := rollC (k + 2) (1000000000000000000 + 1) cG (by decide) (by decide)
  have a6 : execS (callF fs (k + 3)) (.par2 8 9 (.call 13 (.cons (.v 0) (.cons (.bin .add (.bin .pow (.lit (.int 10)) (.lit (.int 18))) (.lit (.int 1))) .nil))) (.lit (.int 1))) (E8 (i' n) (i' q) (rowsD q n) (i' (n - 1)) (rowsD q n) v6 (some (.cell 1)) none none) [cup a b, .lst (G.map T)] =
      .ok (.nx (E8 (i' n) (i' q) (rowsD q n) (i' (n - 1)) (rowsD q n) v6 (some (.cell 1)) (i' gr) (i' 1)), s4) := by
    have e4' : callF fs (k + 3) 13 [.cell 0, .d (.int 1000000000000000001)] [cup a b, .lst (G.map T)] = _ := e4
    exact s_par2 (x := .d (.int gr)) (y := .d (.int 1)) (s1 := s4) (by simp [execSs, execS, evalE, evalT, evalEs, evalDs, evalN, evalSr, evalAnd, evalOr, evalAndT, evalOrT, evalIfs, evalPo, ok_bind, ofOpt, asgV, asgT, asgTs, opV, opD, cmV, cmD, eqD_int, ixV, ixD, slV, biV, seqOf, lstOf, dataOf, cellLst, Py.plain, truth, boolOf, isNone, isTy, bd62, guardOf, wipeE, L2.atI, L2.ixN, Py.finish, pow18, e4']) rfl (by show 8 < 11; decide) (by show 9 < 11; decide)
  obtain ⟨v4, a7⟩ := due_loop (callF fs (k + 3)) gr (i' n) (i' q) (rowsD q n) (rowsD q n) v6 (some (.cell 1)) s4 gr0 (by omega) 8 0 1 (i' (n - 1))
  rw [Int.one_mul] at a7
  have k1 := count_kinds k n q s4 (by omega) (by omega) q0 (by omega)
  have k2 := count_kinds k 8 gr s4 (by decide) (by decide) gr0 (by omega)
  rw [Int.toNat_natCast, ← g1] at k1
  have k3 := like_list k [.int (G.length : Nat), .int ((gr + 1) ^ 8)] s4 rfl (by simp)
  obtain ⟨a', b', rfl, b0', b1'⟩ := c4
  have a8 : evalE (callF fs (k + 3)) (.call 16 (.cons (.nw (.disp (.cons (.call 11 (.cons (.v 1) (.cons (.v 2) .nil))) (.cons (.call 11 (.cons (.lit (.int 8)) (.cons (.v 8) .nil))) .nil)))) (.cons (.nw (.disp (.cons (.bi .len (.cons (.v 7) .nil)) (.cons (.v 9) .nil)))) .nil)))
      (E8 (i' n) (i' q) (rowsD q n) v4 (rowsD q n) v6 (some (.cell 1)) (i' gr) (i' ((gr + 1) ^ 8))) [cup a' b', .lst (G.map T)] = .ok (.d (.bool true), [cup a' b', .lst (G.map T)]) := by
    refine (e_call (s1 := [cup a' b', .lst (G.map T)]) (xs := [.d (.list [.int (G.length : Nat), .int ((gr + 1) ^ 8)]), .d (.list [.int (G.length : Nat), .int ((gr + 1) ^ 8)])]) ?_).trans k3
    refine es_cons (e_nw (n_disp (ds_cons (s1 := [cup a' b', .lst (G.map T)]) ((e_call (es_cons rfl (es_cons rfl es_nil))).trans k1) (ds_cons ((e_call (es_cons rfl (es_cons rfl es_nil))).trans k2) ds_nil)) lim2)) (es_cons (e_nw (n_disp (ds_cons (s1 := [cup a' b', .lst (G.map T)]) (e_bi (es_cons rfl es_nil) ?_) (ds_cons rfl ds_nil)) lim2)) es_nil)
    simp [biV, seqOf, cellLst]
  refine ⟨[cup a' b'], ?_, a', b', rfl, b0', b1'⟩
  refine (call_body (F := F__law_kinds_right) rfl rfl ((xs_nx a1).trans ((xs_nx (s_asg rfl rfl)).trans ((xs_nx a3).trans ((xs_nx (s_asg (e_cellOf rfl) rfl)).trans ((xs_nx ((s_for rfl).trans a5)).trans ((xs_nx a6).trans ((xs_nx ((s_for rfl).trans a7)).trans (xs_rt (s_ret a8)))))))))).trans ?_
  obtain ⟨_, _, rfl, _⟩ := c
  rfl
end K52

set_option Elab.async false
set_option linter.all false
set_option maxRecDepth 100000
set_option maxHeartbeats 4000000
/-! V52i: law_k52 keeps -/
namespace K52
open Py PySem
theorem written (a b : Int) : callF fs 11 20 [] [cup a b] = .ok (.d (.bool true), [cup a b]) := by kernel_rfl
theorem law_cup (k : Nat) (ns : List Int) (h : ns.length ≤ 63) : ∃ a b, callF fs (k + 1) 12 [.fz (I ns)] [] = .ok (.cell 0, [cup a b]) ∧ 0 ≤ b ∧ b < 2 ^ 32 := by
  have h3 : Nat.log2 163 < 9000 := by decide
  have p18 : powOk 10 18 = true := by decide
  have l1 : 1 ≤ LIM := by decide
  have l2 : 2 ≤ LIM := by decide
  have go : ∀ (x : Int) (r : List D), I ns ++ [.int 0] = .int x :: r → ∃ a b, callF fs (k + 1) 12 [.fz (I ns)] [] = .ok (.cell 0, [cup a b]) ∧ 0 ≤ b ∧ b < 2 ^ 32 := by
    intro x r e
    have hl : (I ns).length + 1 ≤ LIM := by
      rw [List.length_map]
      exact Nat.le_trans (show ns.length + 1 ≤ 64 by omega) (by decide)
    have hl2 : ns.length + 1 ≤ LIM := by simpa using hl
    have a1 : execS (callF fs k) (.asg (.nm 1) (.bi .abs (.cons (.ix (.bin .add (.nw (.ofSeq (.v 0))) (.nw (.disp (.cons (.lit (.int 0)) .nil)))) (.lit (.int 0))) .nil))) [some (.fz (I ns)), none] [] = .ok (.nx [some (.fz (I ns)), i' (if x < 0 then -x else x)], []) := by
      refine s_asg (e_bi (es_cons (e_ix (x := .d (.list (.int x :: r))) (z := .int x) (e_bin rfl (e_nw (n_disp (ds_cons rfl ds_nil) l1)) ?_) rfl ?_) es_nil) rfl) rfl
      · show (if (I ns).length + 1 ≤ LIM then some (PyData.list (I ns ++ [.int 0])) else none) = _
        rw [if_pos hl, e]
      · simp [ixV, ixD, seqOf, L2.atI, L2.ixN]
    generalize (if x < 0 then -x else x) = y at a1
    have hm : mulOk y 419 = true := mul_ok' (by decide) (by decide)
    have b0 : 0 ≤ (y * 419 + 6121) % 1904129609 := Int.emod_nonneg _ (by decide)
    have b1 : (y * 419 + 6121) % 1904129609 < 1904129609 := Int.emod_lt_of_pos _ (by decide)
    have a2 : ∃ a, evalE (callF fs k) (.ite (.e (.cmp .ge (.v 1) (.bin .pow (.lit (.int 10)) (.lit (.int 18))))) (.bin .fdiv (.v 1) (.lit (.int 163))) (.lit (.int 0))) [some (.fz (I ns)), i' y] [] = .ok (.d (.int a), []) := by
      by_cases q : 1000000000000000000 ≤ y
      · exact ⟨y / 163, by simp [execSs, execS, evalE, evalT, evalEs, evalDs, evalN, evalSr, evalAnd, evalOr, evalAndT, evalOrT, evalIfs, evalPo, ok_bind, ofOpt, asgV, asgT, asgTs, opV, opD, cmV, cmD, eqD_int, ixV, ixD, slV, biV, seqOf, lstOf, dataOf, cellLst, Py.plain, truth, boolOf, isNone, isTy, bd62, guardOf, wipeE, L2.atI, L2.ixN, Py.finish, p18, q, h3]⟩
      · exact ⟨0, by simp [execSs, execS, evalE, evalT, evalEs, evalDs, evalN, evalSr, evalAnd, evalOr, evalAndT, evalOrT, evalIfs, evalPo, ok_bind, ofOpt, asgV, asgT, asgTs, opV, opD, cmV, cmD, eqD_int, ixV, ixD, slV, biV, seqOf, lstOf, dataOf, cellLst, Py.plain, truth, boolOf, isNone, isTy, bd62, guardOf, wipeE, L2.atI, L2.ixN, Py.finish, p18, q]⟩
    obtain ⟨a, a2⟩ := a2
    have a3 : evalE (callF fs k) (.bin .add (.bin .mod (.bi .int (.cons (.bin .add (.bin .mul (.v 1) (.lit (.int 419))) (.lit (.int 6121))) .nil)) (.lit (.int 1904129609))) (.lit (.int 269))) [some (.fz (I ns)), i' y] [] = .ok (.d (.int ((y * 419 + 6121) % 1904129609 + 269)), []) := by simp [execSs, execS, evalE, evalT, evalEs, evalDs, evalN, evalSr, evalAnd, evalOr, evalAndT, evalOrT, evalIfs, evalPo, ok_bind, ofOpt, asgV, asgT, asgTs, opV, opD, cmV, cmD, eqD_int, ixV, ixD, slV, biV, seqOf, lstOf, dataOf, cellLst, Py.plain, truth, boolOf, isNone, isTy, bd62, guardOf, wipeE, L2.atI, L2.ixN, Py.finish, hm]
    refine ⟨a, (y * 419 + 6121) % 1904129609 + 269, ?_, by omega, by omega⟩
    rw [callF_def (F := F__law_cup) rfl rfl]
    refine (congrArg (Py.finish 0) ((xs_nx a1).trans (xs_rt (s_ret (e_cellOf (n_disp (ds_cons a2 (ds_cons a3 ds_nil)) l2)))))).trans ?_
    rfl
  cases ns with
  | nil => exact go 0 [] rfl
  | cons n r => exact go n (I r ++ [.int 0]) rfl
theorem main (ns : List Int) (h : ns.length ≤ 63) : ∃ st, callF prg.fs 12 21 [.fz (ns.map PyData.int)] [] = .ok (.d (.bool true), st) := by
  obtain ⟨a, b, e1, b0, b1⟩ := law_cup 10 ns h
  have a1 : execS (callF fs 11) (.asg (.nm 1) (.call 12 (.cons (.v 0) .nil))) [some (.fz (I ns)), none, none] [] = .ok (.nx [some (.fz (I ns)), some (.cell 0), none], [cup a b]) := s_asg ((e_call (es_cons rfl es_nil)).trans e1) rfl
  obtain ⟨env, s5, a2, v2, e9, a', b', rfl, b0', b1'⟩ := forL_inv (f := forF (execSs (callF fs 11) (.cons (.ifs (.or (.cons (.nt (.e (.call 18 (.cons (.v 1) .nil)))) (.cons (.nt (.e (.call 19 (.cons (.v 1) .nil)))) .nil))) (.cons (.ret (.lit (.bool false))) .nil) .nil) .nil)) (.nm 2))
    (I := fun env st => ∃ v2, env = [some (.fz (I ns)), some (.cell 0), v2] ∧ CupOk [] st) (xs := rngD 0 8) (env := [some (.fz (I ns)), some (.cell 0), none]) (st := [cup a b]) (fun x hx env st ⟨v2, e, c⟩ => by
      subst e
      obtain ⟨s1, q1, c1⟩ := law_right 3 c
      obtain ⟨s2, q2, c2⟩ := kinds_right 7 c1
      refine ⟨_, s2, (fF (env1 := [some (.fz (I ns)), some (.cell 0), some (.d x)]) rfl).trans ((xs_nx ((s_ifF ?_).trans xs_nil)).trans xs_nil), _, rfl, c2⟩
      refine t_or.trans ((tor_F (t_nt (t_e ((e_call (es_cons rfl es_nil)).trans q1) rfl))).trans (tor_1.trans (t_nt (b := true) (t_e (x := .d (.bool true)) ((e_call (es_cons rfl es_nil)).trans q2) rfl)))) ) ⟨_, rfl, a, b, rfl, b0, b1⟩
  subst e9
  refine ⟨_, call_body (F := F_law) rfl rfl ((xs_nx a1).trans ((xs_nx ((s_for rfl).trans a2)).trans (xs_rt (s_ret ((e_call es_nil).trans (written a' b'))))))⟩
end K52

theorem PySem.Challenge.cw_reasonsgiven_k52_whole_counts_holds : PySem.Challenge.rw_reasonsgiven_k52_whole_counts.Holds :=
  K52.holds_of K52.main
